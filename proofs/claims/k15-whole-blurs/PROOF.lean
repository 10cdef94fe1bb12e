import PyProof.Rows.All
import Wide.All
import OpenK.AllK
import Wide.FinOn
import HandS.ForMost
import HandS.Evl
import HandS.Walk
import HandS.Conv
import HandS.IsInst
import HandS.TupAny
import HandS.DictComp
import HandS.Strs
import HandS.SetFor
import HandS.Zip
import HandS.Style
import KE.SortData
import KE.DataMinMax
import KE.GoesEnum
import PySem.Challenge.RW_nomoretold_k15_whole_blurs
set_option Elab.async false
set_option linter.all false
set_option maxRecDepth 100000
set_option maxHeartbeats 4200000
namespace K15

abbrev Cell := Nat → Nat → Int
def near (e : Cell) (C : List Nat) (a b : Nat) : Bool := C.any fun y => e a y == e b y
def flipC (e : Cell) : Cell := fun y x => e x y
def isOne (e : Cell) (R C : List Nat) : Bool := R.all fun x => C.all fun y => e x y == e (R.headD 0) (C.headD 0)

inductive Conn (n : Nat → Nat → Bool) (R : List Nat) : Nat → Nat → Prop
  | refl {x : Nat} : x ∈ R → Conn n R x x
  | step {x y z : Nat} : Conn n R x y → z ∈ R → n y z = true → Conn n R x z

theorem Conn.left {n : Nat → Nat → Bool} {R : List Nat} {x y : Nat} (h : Conn n R x y) : x ∈ R := by
  induction h with
  | refl h => exact h
  | step _ _ _ ih => exact ih
theorem Conn.right {n : Nat → Nat → Bool} {R : List Nat} {x y : Nat} (h : Conn n R x y) : y ∈ R := by
  cases h with
  | refl h => exact h
  | step _ h _ => exact h
theorem Conn.trans {n : Nat → Nat → Bool} {R : List Nat} {x y z : Nat} (h : Conn n R x y) (h' : Conn n R y z) : Conn n R x z := by
  induction h' with
  | refl _ => exact h
  | step _ b c ih => exact Conn.step ih b c
theorem Conn.one {n : Nat → Nat → Bool} {R : List Nat} {x y : Nat} (hx : x ∈ R) (hy : y ∈ R) (h : n x y = true) : Conn n R x y := .step (.refl hx) hy h
theorem Conn.symm {n : Nat → Nat → Bool} {R : List Nat} (hn : ∀ a b, n a b = n b a) {x y : Nat} (h : Conn n R x y) : Conn n R y x := by
  induction h with
  | refl h => exact .refl h
  | step a b c ih => exact Conn.trans (Conn.one b a.right (by rw [hn]; exact c)) ih
theorem Conn.mono {n n' : Nat → Nat → Bool} {R R' : List Nat} (hR : ∀ x ∈ R, x ∈ R') (hn : ∀ a b, a ∈ R → b ∈ R → n a b = true → n' a b = true) {x y : Nat} (h : Conn n R x y) : Conn n' R' x y := by
  induction h with
  | refl h => exact .refl (hR _ h)
  | step a b c ih => exact .step ih (hR _ b) (hn _ _ a.right b c)

theorem near_symm (e : Cell) (C : List Nat) (a b : Nat) : near e C a b = near e C b a := by
  unfold near
  congr 1
  funext y
  rw [Bool.eq_iff_iff]
  simp only [beq_iff_eq]
  exact ⟨fun h => h.symm, fun h => h.symm⟩
theorem near_mono {e : Cell} {C C' : List Nat} (h : ∀ y ∈ C, y ∈ C') {a b : Nat} (hn : near e C a b = true) : near e C' a b = true := by
  unfold near at *
  rw [List.any_eq_true] at *
  obtain ⟨y, hy, q⟩ := hn
  exact ⟨y, h y hy, q⟩

/-- the lots of the rows that hang together -/
structure Part (n : Nat → Nat → Bool) (R : List Nat) (L : List (List Nat)) : Prop where
  sub : ∀ l ∈ L, ∀ x ∈ l, x ∈ R
  ne : ∀ l ∈ L, l ≠ []
  cov : ∀ x ∈ R, ∃ l ∈ L, x ∈ l
  closed : ∀ l ∈ L, ∀ x ∈ l, ∀ y ∈ R, n x y = true → y ∈ l
  conn : ∀ l ∈ L, ∀ x ∈ l, ∀ y ∈ l, Conn n R x y
  nd : ∀ l ∈ L, l.Nodup
  small : 1 < L.length → ∀ l ∈ L, l.length < R.length
  few : L.length ≤ R.length

theorem Part.congr {n n' : Nat → Nat → Bool} {R : List Nat} {L : List (List Nat)} (h : ∀ a b, a ∈ R → b ∈ R → n a b = n' a b) (p : Part n R L) : Part n' R L where
  sub := p.sub
  ne := p.ne
  cov := p.cov
  closed := fun l hl x hx y hy q => p.closed l hl x hx y hy (by rw [h x y (p.sub l hl x hx) hy]; exact q)
  conn := fun l hl x hx y hy => (p.conn l hl x hx y hy).mono (fun _ z => z) fun a b ha hb q => by rw [← h a b ha hb]; exact q
  nd := p.nd
  small := p.small
  few := p.few

def Knot (e : Cell) (R C : List Nat) : Prop :=
  isOne e R C = false ∧ (∀ x ∈ R, ∀ y ∈ R, Conn (near e C) R x y) ∧ (∀ x ∈ C, ∀ y ∈ C, Conn (near (flipC e) R) C x y)
def NoKnot (e : Cell) (R C : List Nat) : Prop :=
  ∀ R' C', (∀ x ∈ R', x ∈ R) → (∀ y ∈ C', y ∈ C) → R' ≠ [] → C' ≠ [] → ¬ Knot e R' C'

theorem isOne_iff {e : Cell} {R C : List Nat} (hR : R ≠ []) (hC : C ≠ []) : isOne e R C = true ↔ ∀ x ∈ R, ∀ y ∈ C, ∀ x' ∈ R, ∀ y' ∈ C, e x y = e x' y' := by
  cases R with
  | nil => exact absurd rfl hR
  | cons r R =>
    cases C with
    | nil => exact absurd rfl hC
    | cons c C =>
      unfold isOne
      simp only [List.all_eq_true, beq_iff_eq, List.headD_cons]
      constructor
      · intro h x hx y hy x' hx' y' hy'
        rw [h x hx y hy, h x' hx' y' hy']
      · intro h x hx y hy
        exact h x hx y hy r List.mem_cons_self c List.mem_cons_self
theorem isOne_flip {e : Cell} {R C : List Nat} (hR : R ≠ []) (hC : C ≠ []) : isOne (flipC e) C R = isOne e R C := by
  rw [Bool.eq_iff_iff, isOne_iff hC hR, isOne_iff hR hC]
  unfold flipC
  exact ⟨fun h x hx y hy x' hx' y' hy' => h y hy x hx y' hy' x' hx', fun h x hx y hy x' hx' y' hy' => h y hy x hx y' hy' x' hx'⟩
theorem noKnot_flip {e : Cell} {R C : List Nat} : NoKnot (flipC e) C R ↔ NoKnot e R C := by
  constructor
  · intro h R' C' h1 h2 h3 h4 ⟨k1, k2, k3⟩
    exact h C' R' h2 h1 h4 h3 ⟨by rw [isOne_flip h3 h4]; exact k1, k3, k2⟩
  · intro h C' R' h1 h2 h3 h4 ⟨k1, k2, k3⟩
    exact h R' C' h2 h1 h4 h3 ⟨by rw [← isOne_flip h4 h3]; exact k1, k3, k2⟩

theorem noKnot_one {e : Cell} {R C : List Nat} (hR : R ≠ []) (hC : C ≠ []) (h : isOne e R C = true) : NoKnot e R C := by
  intro R' C' h1 h2 h3 h4 ⟨k1, _, _⟩
  have h' := (isOne_iff hR hC).mp h
  have : isOne e R' C' = true := (isOne_iff h3 h4).mpr fun x hx y hy x' hx' y' hy' => h' x (h1 x hx) y (h2 y hy) x' (h1 x' hx') y' (h2 y' hy')
  rw [this] at k1
  cases k1
theorem NoKnot.sub {e : Cell} {R C R' C' : List Nat} (h : NoKnot e R C) (h1 : ∀ x ∈ R', x ∈ R) (h2 : ∀ y ∈ C', y ∈ C) : NoKnot e R' C' :=
  fun R2 C2 q1 q2 q3 q4 => h R2 C2 (fun x hx => h1 x (q1 x hx)) (fun y hy => h2 y (q2 y hy)) q3 q4

theorem in_one_lot {e : Cell} {R C R' C' : List Nat} {L : List (List Nat)} (p : Part (near e C) R L) (h1 : ∀ x ∈ R', x ∈ R) (h2 : ∀ y ∈ C', y ∈ C) (h3 : R' ≠ []) (k : ∀ x ∈ R', ∀ y ∈ R', Conn (near e C') R' x y) :
    ∃ l ∈ L, ∀ x ∈ R', x ∈ l := by
  obtain ⟨x0, r, rfl⟩ : ∃ x0 r, R' = x0 :: r := by
    cases R' with
    | nil => exact absurd rfl h3
    | cons a b => exact ⟨a, b, rfl⟩
  obtain ⟨l, hl, hx⟩ := p.cov x0 (h1 x0 List.mem_cons_self)
  refine ⟨l, hl, fun y hy => ?_⟩
  have c := k x0 List.mem_cons_self y hy
  clear hy
  induction c with
  | refl _ => exact hx
  | step a b c ih => exact p.closed l hl _ ih _ (h1 _ b) (near_mono h2 c)
/-- going down by the rows' lots -/
theorem down_rows {e : Cell} {R C : List Nat} {L : List (List Nat)} (p : Part (near e C) R L) : NoKnot e R C ↔ ∀ l ∈ L, NoKnot e l C := by
  constructor
  · intro h l hl
    exact h.sub (p.sub l hl) fun _ z => z
  · intro h R' C' h1 h2 h3 h4 k
    obtain ⟨l, hl, q⟩ := in_one_lot p h1 h2 h3 k.2.1
    exact h l hl R' C' q h2 h3 h4 k
theorem down_cols {e : Cell} {R C : List Nat} {L : List (List Nat)} (p : Part (near (flipC e) R) C L) : NoKnot e R C ↔ ∀ l ∈ L, NoKnot e R l := by
  rw [← noKnot_flip, down_rows p]
  exact ⟨fun h l hl => noKnot_flip.mp (h l hl), fun h l hl => noKnot_flip.mpr (h l hl)⟩
theorem one_lot {n : Nat → Nat → Bool} {R : List Nat} {L : List (List Nat)} (p : Part n R L) (h : ¬ 1 < L.length) : ∀ x ∈ R, ∀ y ∈ R, Conn n R x y := by
  intro x hx y hy
  obtain ⟨l, hl, q⟩ := p.cov x hx
  obtain ⟨l', hl', q'⟩ := p.cov y hy
  have : l = l' := by
    match L, h with
    | [], _ => cases hl
    | [a], _ =>
      rw [List.mem_singleton] at hl hl'
      rw [hl, hl']
    | _ :: _ :: _, h => simp at h
  subst this
  exact p.conn l hl x q y q'
theorem stuck_knot {e : Cell} {R C : List Nat} {L M : List (List Nat)} (hR : R ≠ []) (hC : C ≠ []) (h1 : isOne e R C = false) (p : Part (near e C) R L) (q : Part (near (flipC e) R) C M) (hL : ¬ 1 < L.length) (hM : ¬ 1 < M.length) : ¬ NoKnot e R C :=
  fun h => h R C (fun _ z => z) (fun _ z => z) hR hC ⟨h1, one_lot p hL, one_lot q hM⟩

/-! ### by heads -/
structure Heads (n : Nat → Nat → Bool) (R : List Nat) (h : Nat → Nat) : Prop where
  inR : ∀ x ∈ R, h x ∈ R
  idem : ∀ x ∈ R, h (h x) = h x
  conn : ∀ x ∈ R, Conn n R x (h x)
theorem heads_start {n : Nat → Nat → Bool} {R : List Nat} : Heads n R fun x => x := ⟨fun _ z => z, fun _ _ => rfl, fun _ z => .refl z⟩
def merge (h : Nat → Nat) (low late : Nat) : Nat → Nat := fun x => if h x = late then low else h x
theorem heads_merge {n : Nat → Nat → Bool} {R : List Nat} {h : Nat → Nat} (hn : ∀ a b, n a b = n b a) (H : Heads n R h) {a b : Nat} (ha : a ∈ R) (hb : b ∈ R) (hab : n a b = true) (u v : Nat) (huv : (u = h a ∧ v = h b) ∨ (u = h b ∧ v = h a)) : Heads n R (merge h u v) := by
  have hu : u ∈ R ∧ h u = u := by
    rcases huv with ⟨rfl, rfl⟩ | ⟨rfl, rfl⟩
    · exact ⟨H.inR a ha, H.idem a ha⟩
    · exact ⟨H.inR b hb, H.idem b hb⟩
  have huv' : Conn n R v u := by
    have c1 : Conn n R (h a) (h b) := ((H.conn a ha).symm hn).trans ((Conn.one ha hb hab).trans (H.conn b hb))
    rcases huv with ⟨rfl, rfl⟩ | ⟨rfl, rfl⟩
    · exact c1.symm hn
    · exact c1
  refine ⟨fun x hx => ?_, fun x hx => ?_, fun x hx => ?_⟩
  · unfold merge
    split
    · exact hu.1
    · exact H.inR x hx
  · unfold merge
    by_cases c : h x = v
    · rw [if_pos c, hu.2]
      split <;> rfl
    · rw [if_neg c, H.idem x hx, if_neg c]
  · unfold merge
    split
    · rename_i c
      exact (H.conn x hx).trans (by rw [c]; exact huv')
    · exact H.conn x hx
theorem merge_keep {h : Nat → Nat} {u v a b : Nat} (e : h a = h b) : merge h u v a = merge h u v b := by
  unfold merge
  rw [e]
theorem merge_joins {h : Nat → Nat} {u v a b : Nat} (huv : (u = h a ∧ v = h b) ∨ (u = h b ∧ v = h a)) : merge h u v a = merge h u v b := by
  unfold merge
  rcases huv with ⟨rfl, rfl⟩ | ⟨rfl, rfl⟩
  · by_cases c : h a = h b
    · simp [c]
    · simp [c]
  · by_cases c : h b = h a
    · simp [c]
    · simp [c]
def lotsOf (h : Nat → Nat) (R : List Nat) : List (List Nat) := (R.filter fun x => h x == x).map fun x => R.filter fun y => h y == x
theorem heads_part {n : Nat → Nat → Bool} {R : List Nat} {h : Nat → Nat} (hn : ∀ a b, n a b = n b a) (nd : R.Nodup) (H : Heads n R h) (all : ∀ a ∈ R, ∀ b ∈ R, n a b = true → h a = h b) : Part n R (lotsOf h R) := by
  have mem : ∀ l, l ∈ lotsOf h R ↔ ∃ x, x ∈ R ∧ h x = x ∧ l = R.filter fun y => h y == x := fun l => by
    unfold lotsOf
    rw [List.mem_map]
    constructor
    · rintro ⟨x, hx, rfl⟩
      rw [List.mem_filter, beq_iff_eq] at hx
      exact ⟨x, hx.1, hx.2, rfl⟩
    · rintro ⟨x, h1, h2, rfl⟩
      exact ⟨x, by rw [List.mem_filter, beq_iff_eq]; exact ⟨h1, h2⟩, rfl⟩
  have inl : ∀ x y, y ∈ R.filter (fun y => h y == x) ↔ y ∈ R ∧ h y = x := fun x y => by rw [List.mem_filter, beq_iff_eq]
  refine ⟨fun l hl x hx => ?_, fun l hl => ?_, fun x hx => ?_, fun l hl x hx y hy q => ?_, fun l hl x hx y hy => ?_, fun l hl => ?_, fun hL l hl => ?_, ?_⟩
  · obtain ⟨z, _, _, rfl⟩ := (mem l).mp hl
    exact ((inl z x).mp hx).1
  · obtain ⟨z, h1, h2, rfl⟩ := (mem l).mp hl
    exact List.ne_nil_of_mem ((inl z z).mpr ⟨h1, h2⟩)
  · exact ⟨_, (mem _).mpr ⟨h x, H.inR x hx, H.idem x hx, rfl⟩, (inl _ _).mpr ⟨hx, rfl⟩⟩
  · obtain ⟨z, _, _, rfl⟩ := (mem l).mp hl
    have e := ((inl z x).mp hx)
    exact (inl z y).mpr ⟨hy, by rw [← all x e.1 y hy q]; exact e.2⟩
  · obtain ⟨z, _, _, rfl⟩ := (mem l).mp hl
    have e := (inl z x).mp hx
    have e' := (inl z y).mp hy
    have c1 := H.conn x e.1
    have c2 := H.conn y e'.1
    rw [e.2] at c1
    rw [e'.2] at c2
    exact c1.trans (c2.symm hn)
  · obtain ⟨z, _, _, rfl⟩ := (mem l).mp hl
    exact nd.filter _
  · obtain ⟨z, hz, hz2, rfl⟩ := (mem l).mp hl
    -- another head
    have : ∃ w, w ∈ R ∧ h w = w ∧ w ≠ z := by
      have nf : (R.filter fun x => h x == x).Nodup := nd.filter _
      have lf : 1 < (R.filter fun x => h x == x).length := by
        unfold lotsOf at hL
        rw [List.length_map] at hL
        exact hL
      match hf : R.filter (fun x => h x == x), nf, lf with
      | [], _, lf => simp at lf
      | [_], _, lf => simp at lf
      | a :: b :: r, nf, _ =>
        have ha : a ∈ R.filter (fun x => h x == x) := by rw [hf]; exact List.mem_cons_self
        have hb : b ∈ R.filter (fun x => h x == x) := by rw [hf]; exact List.mem_cons_of_mem _ List.mem_cons_self
        rw [List.mem_filter, beq_iff_eq] at ha hb
        have hab : a ≠ b := by
          intro q
          rw [List.nodup_cons] at nf
          exact nf.1 (by rw [q]; exact List.mem_cons_self)
        by_cases q : a = z
        · exact ⟨b, hb.1, hb.2, fun q' => hab (by rw [q, q'])⟩
        · exact ⟨a, ha.1, ha.2, q⟩
    obtain ⟨w, hw, hw2, hwz⟩ := this
    rcases Nat.lt_or_ge (R.filter fun y => h y == z).length R.length with q | q
    · exact q
    · exfalso
      have e : R.filter (fun y => h y == z) = R := (List.filter_sublist).eq_of_length_le q
      have := (inl z w).mp (by rw [e]; exact hw)
      exact hwz (by rw [← this.2, hw2])
  · unfold lotsOf
    rw [List.length_map]
    exact List.length_filter_le _ _

/-! ### by growth -/
def grow (n : Nat → Nat → Bool) (left lot : List Nat) : List Nat := lot ++ left.filter fun x => !decide (x ∈ lot) && lot.any fun z => n x z
structure Grown (n : Nat → Nat → Bool) (left : List Nat) (k : Nat) (lot : List Nat) : Prop where
  sub : ∀ x ∈ lot, x ∈ left
  nd : lot.Nodup
  conn : ∀ x ∈ lot, ∀ y ∈ lot, Conn n left x y
  some : left ≠ [] → lot ≠ []
  far : (∀ x ∈ lot, ∀ y ∈ left, n x y = true → y ∈ lot) ∨ k < lot.length
theorem grown_start {n : Nat → Nat → Bool} {left : List Nat} : Grown n left 0 (left.take 1) := by
  cases left with
  | nil => exact ⟨fun _ z => (by cases z), List.nodup_nil, fun _ z => (by cases z), fun z => absurd rfl z, .inl fun _ z => (by cases z)⟩
  | cons a r =>
    refine ⟨fun x hx => ?_, by simp, fun x hx y hy => ?_, fun _ => by simp, .inr (by simp)⟩
    · exact List.mem_of_mem_take hx
    · have e1 : x = a := by simpa using hx
      have e2 : y = a := by simpa using hy
      rw [e1, e2]
      exact .refl List.mem_cons_self
theorem grown_step {n : Nat → Nat → Bool} (hn : ∀ a b, n a b = n b a) {left : List Nat} {k : Nat} {lot : List Nat} (nd : left.Nodup) (g : Grown n left k lot) : Grown n left (k + 1) (grow n left lot) := by
  have mem : ∀ x, x ∈ grow n left lot ↔ x ∈ lot ∨ (x ∈ left ∧ x ∉ lot ∧ ∃ z ∈ lot, n x z = true) := fun x => by
    unfold grow
    rw [List.mem_append, List.mem_filter]
    simp only [Bool.and_eq_true, Bool.not_eq_true', decide_eq_false_iff_not, List.any_eq_true]
  have toLot : ∀ x ∈ grow n left lot, ∃ z ∈ lot, Conn n left x z := fun x hx => by
    rcases (mem x).mp hx with h | ⟨h1, _, z, hz, q⟩
    · exact ⟨x, h, .refl (g.sub x h)⟩
    · exact ⟨z, hz, .one h1 (g.sub z hz) q⟩
  refine ⟨fun x hx => ?_, ?_, fun x hx y hy => ?_, fun z => ?_, ?_⟩
  · rcases (mem x).mp hx with h | h
    · exact g.sub x h
    · exact h.1
  · unfold grow
    rw [List.nodup_append]
    refine ⟨g.nd, nd.filter _, fun a ha b hb q => ?_⟩
    subst q
    rw [List.mem_filter] at hb
    simp only [Bool.and_eq_true, Bool.not_eq_true', decide_eq_false_iff_not] at hb
    exact hb.2.1 ha
  · obtain ⟨u, hu, c1⟩ := toLot x hx
    obtain ⟨v, hv, c2⟩ := toLot y hy
    exact c1.trans ((g.conn u hu v hv).trans (c2.symm hn))
  · unfold grow
    intro q
    exact g.some z (List.append_eq_nil_iff.mp q).1
  · by_cases c : left.filter (fun x => !decide (x ∈ lot) && lot.any fun z => n x z) = []
    · left
      have e : grow n left lot = lot := by
        unfold grow
        rw [c, List.append_nil]
      rw [e]
      intro x hx y hy q
      by_cases hyl : y ∈ lot
      · exact hyl
      · exfalso
        have : y ∈ left.filter (fun x => !decide (x ∈ lot) && lot.any fun z => n x z) := by
          rw [List.mem_filter]
          refine ⟨hy, ?_⟩
          simp only [Bool.and_eq_true, Bool.not_eq_true', decide_eq_false_iff_not, List.any_eq_true]
          exact ⟨hyl, x, hx, by rw [hn]; exact q⟩
        rw [c] at this
        cases this
    · rcases g.far with f | f
      · exfalso
        refine c (List.filter_eq_nil_iff.mpr fun x hx => ?_)
        simp only [Bool.and_eq_true, Bool.not_eq_true', decide_eq_false_iff_not, List.any_eq_true, not_and, not_exists]
        intro h z hz q
        exact h (f z hz x hx (by rw [hn]; exact q))
      · right
        unfold grow
        rw [List.length_append]
        have := List.length_pos_iff.mpr c
        omega
theorem nodup_len_le : ∀ {l m : List Nat}, l.Nodup → (∀ x ∈ l, x ∈ m) → l.length ≤ m.length
  | [], _, _, _ => (Nat.zero_le _)
  | a :: r, m, nd, h => by
    rw [List.nodup_cons] at nd
    have ha : a ∈ m := h a List.mem_cons_self
    have ih := nodup_len_le (l := r) (m := m.erase a) nd.2 fun x hx => (List.mem_erase_of_ne (fun q => nd.1 (by rw [← q]; exact hx))).mpr (h x (List.mem_cons_of_mem _ hx))
    rw [List.length_erase_of_mem ha] at ih
    have := List.length_pos_of_mem ha
    rw [List.length_cons]
    omega
theorem grown_done {n : Nat → Nat → Bool} {left lot : List Nat} (g : Grown n left left.length lot) : ∀ x ∈ lot, ∀ y ∈ left, n x y = true → y ∈ lot := by
  rcases g.far with f | f
  · exact f
  · have := nodup_len_le g.nd g.sub
    omega
/-- after some turns: what is left, what is found -/
structure Turned (n : Nat → Nat → Bool) (R : List Nat) (k : Nat) (left : List Nat) (L : List (List Nat)) : Prop where
  sub : ∀ x ∈ left, x ∈ R
  nd : left.Nodup
  few : left.length + k ≤ R.length ∨ left = []
  lsub : ∀ l ∈ L, ∀ x ∈ l, x ∈ R
  lne : ∀ l ∈ L, l ≠ []
  lnd : ∀ l ∈ L, l.Nodup
  lclosed : ∀ l ∈ L, ∀ x ∈ l, ∀ y ∈ R, n x y = true → y ∈ l
  lconn : ∀ l ∈ L, ∀ x ∈ l, ∀ y ∈ l, Conn n R x y
  lout : ∀ l ∈ L, ∀ x ∈ l, x ∉ left
  cov : ∀ x ∈ R, x ∈ left ∨ ∃ l ∈ L, x ∈ l
  dis : L.Pairwise fun l m => ∀ x ∈ l, x ∉ m
  count : L.length ≤ k
theorem turned_start {n : Nat → Nat → Bool} {R : List Nat} (nd : R.Nodup) : Turned n R 0 R [] where
  sub := fun _ z => z
  nd := nd
  few := .inl (Nat.le_refl _)
  lsub := fun _ z => (by cases z)
  lne := fun _ z => (by cases z)
  lnd := fun _ z => (by cases z)
  lclosed := fun _ z => (by cases z)
  lconn := fun _ z => (by cases z)
  lout := fun _ z => (by cases z)
  cov := fun _ z => .inl z
  dis := List.Pairwise.nil
  count := Nat.le_refl _
theorem turned_step {n : Nat → Nat → Bool} (hn : ∀ a b, n a b = n b a) {R left lot s : List Nat} {L : List (List Nat)} {k : Nat} (t : Turned n R k left L) (g : Grown n left left.length lot) (hs : s.Perm lot) :
    Turned n R (k + 1) (left.filter fun x => !decide (x ∈ lot)) (L ++ if lot ≠ [] then [s] else []) := by
  have hsm : ∀ x, x ∈ s ↔ x ∈ lot := fun x => hs.mem_iff
  have fmem : ∀ x, x ∈ left.filter (fun x => !decide (x ∈ lot)) ↔ x ∈ left ∧ x ∉ lot := fun x => by
    rw [List.mem_filter]
    (simp only [Bool.not_eq_true', decide_eq_false_iff_not])
  have done := grown_done g
  -- what is left is closed
  have lcl : ∀ x ∈ left, ∀ y ∈ R, n x y = true → y ∈ left := fun x hx y hy q => by
    rcases t.cov y hy with h | ⟨l, hl, h⟩
    · exact h
    · exact absurd hx (t.lout l hl x (t.lclosed l hl y h x (t.sub x hx) (by rw [hn]; exact q)))
  by_cases he : lot = []
  · have hle : left = [] := by
      cases left with
      | nil => rfl
      | cons a r => exact absurd he (g.some (by simp))
    rw [if_neg (by simp [he]), List.append_nil, hle]
    have t' := t
    rw [hle] at t'
    exact ⟨t'.sub, by simp, .inr rfl, t.lsub, t.lne, t.lnd, t.lclosed, t.lconn, fun l hl x hx => (by simp), t'.cov, t.dis, Nat.le_succ_of_le t.count⟩
  · rw [if_pos he]
    have mem : ∀ l, l ∈ L ++ [s] ↔ l ∈ L ∨ l = s := fun l => by rw [List.mem_append, List.mem_singleton]
    refine ⟨fun x hx => t.sub x ((fmem x).mp hx).1, t.nd.filter _, ?_, fun l hl => ?_, fun l hl => ?_, fun l hl => ?_, fun l hl => ?_, fun l hl => ?_, fun l hl x hx => ?_, fun x hx => ?_, ?_, ?_⟩
    · have hlt : (left.filter fun x => !decide (x ∈ lot)).length < left.length := by
        rcases Nat.lt_or_ge (left.filter fun x => !decide (x ∈ lot)).length left.length with q | q
        · exact q
        · exfalso
          have e : left.filter (fun x => !decide (x ∈ lot)) = left := (List.filter_sublist).eq_of_length_le q
          obtain ⟨a, ha⟩ := List.exists_mem_of_ne_nil lot he
          have := (fmem a).mp (by rw [e]; exact g.sub a ha)
          exact this.2 ha
      rcases t.few with f | f
      · left; omega
      · rw [f] at hlt
        simp at hlt
    · rcases (mem l).mp hl with h | rfl
      · exact t.lsub l h
      · exact fun x hx => t.sub x (g.sub x ((hsm x).mp hx))
    · rcases (mem l).mp hl with h | rfl
      · exact t.lne l h
      · intro q
        rw [q] at hs
        exact he (List.Perm.nil_eq hs).symm
    · rcases (mem l).mp hl with h | rfl
      · exact t.lnd l h
      · exact hs.nodup_iff.mpr g.nd
    · rcases (mem l).mp hl with h | rfl
      · exact t.lclosed l h
      · intro x hx y hy q
        have hx' := (hsm x).mp hx
        exact (hsm y).mpr (done x hx' y (lcl x (g.sub x hx') y hy q) q)
    · rcases (mem l).mp hl with h | rfl
      · exact t.lconn l h
      · intro x hx y hy
        exact (g.conn x ((hsm x).mp hx) y ((hsm y).mp hy)).mono t.sub fun _ _ _ _ z => z
    · rcases (mem l).mp hl with h | rfl
      · exact fun q => t.lout l h x hx ((fmem x).mp q).1
      · exact fun q => ((fmem x).mp q).2 ((hsm x).mp hx)
    · rcases t.cov x hx with h | ⟨l, hl, h⟩
      · by_cases q : x ∈ lot
        · exact .inr ⟨s, (mem s).mpr (.inr rfl), (hsm x).mpr q⟩
        · exact .inl ((fmem x).mpr ⟨h, q⟩)
      · exact .inr ⟨l, (mem l).mpr (.inl hl), h⟩
    · rw [List.pairwise_append]
      refine ⟨t.dis, List.pairwise_singleton _ _, fun l hl m hm x hx q => ?_⟩
      rw [List.mem_singleton] at hm
      subst hm
      exact t.lout l hl x hx (g.sub x ((hsm x).mp q))
    · rw [List.length_append]
      have := t.count
      simp
      omega
theorem turned_part {n : Nat → Nat → Bool} {R left : List Nat} {L : List (List Nat)} (t : Turned n R R.length left L) : Part n R L := by
  have hle : left = [] := by
    rcases t.few with f | f
    · exact List.eq_nil_of_length_eq_zero (by omega)
    · exact f
  subst hle
  refine ⟨t.lsub, t.lne, fun x hx => ?_, t.lclosed, t.lconn, t.lnd, fun hL l hl => ?_, t.count⟩
  · rcases t.cov x hx with h | h
    · cases h
    · exact h
  · -- another lot m, of which no thing stands in l
    obtain ⟨m, hm, hd⟩ : ∃ m ∈ L, ∀ x ∈ m, x ∉ l := by
      obtain ⟨i, hi, rfl⟩ := List.mem_iff_getElem.mp hl
      have pw := List.pairwise_iff_getElem.mp t.dis
      by_cases z : i = 0
      · subst z
        refine ⟨L[1], List.getElem_mem hL, fun x hx q => ?_⟩
        exact pw 0 1 hi hL (by omega) x q hx
      · refine ⟨L[0], List.getElem_mem (by omega), fun x hx q => ?_⟩
        exact pw 0 i (by omega) hi (by omega) x hx q
    obtain ⟨a, ha⟩ := List.exists_mem_of_ne_nil m (t.lne m hm)
    have : (a :: l).length ≤ R.length := nodup_len_le (List.nodup_cons.mpr ⟨hd a ha, t.lnd l hl⟩) fun x hx => by
      (rcases List.mem_cons.mp hx with rfl | hx)
      · exact t.lsub m hm x ha
      · exact t.lsub l hl x hx
    rw [List.length_cons] at this
    omega
end K15
namespace K15

abbrev Lots := List (List Int)
def extAt (a : Int) (l : Lots) (i : Nat) : Lots := l.take i ++ [l.getD i [] ++ [a]] ++ l.drop (i + 1)
def ext (a : Int) (l : Lots) : List Lots := (l ++ [[a]]) :: (List.range l.length).map (extAt a l)
def lawStep (found : List Lots) (a : Int) : List Lots := found.flatMap (ext a)
def progStep (found : List Lots) (a : Int) : List Lots := found.map (fun l => l ++ [[a]]) ++ found.flatMap fun l => (List.range l.length).map (extAt a l)
def lawAll (as : List Int) : List Lots := as.foldl lawStep [[]]
def progAll (as : List Int) : List Lots := as.foldl progStep [[]]

theorem step_perm (a : Int) : ∀ found : List Lots, (progStep found a).Perm (lawStep found a)
  | [] => .nil
  | l :: r => by
    have ih := step_perm a r
    unfold progStep lawStep at *
    rw [List.map_cons, List.flatMap_cons, List.flatMap_cons]
    have e : ext a l = (l ++ [[a]]) :: (List.range l.length).map (extAt a l) := rfl
    rw [e, List.cons_append, List.cons_append]
    refine List.Perm.cons _ ?_
    have p1 : (r.map (fun l => l ++ [[a]]) ++ ((List.range l.length).map (extAt a l) ++ r.flatMap fun l => (List.range l.length).map (extAt a l))).Perm ((List.range l.length).map (extAt a l) ++ (r.map (fun l => l ++ [[a]]) ++ r.flatMap fun l => (List.range l.length).map (extAt a l))) := by
      (rw [← List.append_assoc, ← List.append_assoc])
      (exact List.Perm.append_right _ List.perm_append_comm)
    exact p1.trans (List.Perm.append_left _ ih)
theorem progStep_perm {f g : List Lots} (a : Int) (h : f.Perm g) : (progStep f a).Perm (progStep g a) := by
  unfold progStep
  exact List.Perm.append (h.map _) (h.flatMap_right _)
theorem fold_perm : ∀ (as : List Int) (f g : List Lots), f.Perm g → (as.foldl progStep f).Perm (as.foldl lawStep g)
  | [], _, _, h => h
  | a :: as, f, g, h => by
    (rw [List.foldl_cons, List.foldl_cons])
    exact fold_perm as _ _ ((progStep_perm a h).trans (step_perm a g))
theorem all_perm (as : List Int) : (progAll as).Perm (lawAll as) := fold_perm as _ _ (.refl _)

structure LotsOk (as : List Int) (l : Lots) : Prop where
  perm : l.flatten.Perm as
  ne : ∀ x ∈ l, x ≠ []
  asc : ∀ x ∈ l, x.Pairwise (· < ·)
  heads : l.Pairwise fun x y => x.headD 0 < y.headD 0

theorem lotsOk_nil : LotsOk [] [] := ⟨.nil, fun _ z => (by cases z), fun _ z => (by cases z), .nil⟩
theorem headD_mem {x : List Int} (h : x ≠ []) : x.headD 0 ∈ x := by
  cases x with
  | nil => exact absurd rfl h
  | cons a r => exact List.mem_cons_self
theorem LotsOk.mem {as : List Int} {l : Lots} (h : LotsOk as l) {x : List Int} {a : Int} (hx : x ∈ l) (ha : a ∈ x) : a ∈ as := h.perm.mem_iff.mp (List.mem_flatten.mpr ⟨x, hx, ha⟩)
theorem lotsOk_new {as : List Int} {l : Lots} {a : Int} (h : LotsOk as l) (hl : ∀ b ∈ as, b < a) : LotsOk (as ++ [a]) (l ++ [[a]]) := by
  refine ⟨?_, fun x hx => ?_, fun x hx => ?_, ?_⟩
  · rw [List.flatten_append, List.flatten_singleton]
    exact List.Perm.append_right _ h.perm
  · rcases List.mem_append.mp hx with q | q
    · exact h.ne x q
    · rw [List.mem_singleton] at q
      subst q
      simp
  · rcases List.mem_append.mp hx with q | q
    · exact h.asc x q
    · rw [List.mem_singleton] at q
      subst q
      simp
  · rw [List.pairwise_append]
    refine ⟨h.heads, List.pairwise_singleton _ _, fun x hx y hy => ?_⟩
    rw [List.mem_singleton] at hy
    subst hy
    exact hl _ (h.mem hx (headD_mem (h.ne x hx)))
theorem extAt_split (a : Int) (l : Lots) (i : Nat) (hi : i < l.length) : ∃ p x q, l = p ++ x :: q ∧ p.length = i ∧ extAt a l i = p ++ (x ++ [a]) :: q := by
  refine ⟨l.take i, l[i], l.drop (i + 1), ?_, ?_, ?_⟩
  · rw [← List.drop_eq_getElem_cons hi, List.take_append_drop]
  · rw [List.length_take]
    omega
  · unfold extAt
    have e : l.getD i [] = l[i] := by
      (rw [List.getD_eq_getElem?_getD, List.getElem?_eq_getElem hi])
      rfl
    rw [e, List.append_assoc]
    rfl
theorem headD_app {x : List Int} {a : Int} (h : x ≠ []) : (x ++ [a]).headD 0 = x.headD 0 := by
  cases x with
  | nil => exact absurd rfl h
  | cons b r => rfl
theorem lotsOk_at {as : List Int} {l : Lots} {a : Int} (h : LotsOk as l) (hl : ∀ b ∈ as, b < a) {i : Nat} (hi : i < l.length) : LotsOk (as ++ [a]) (extAt a l i) := by
  obtain ⟨p, x, q, e, _, e2⟩ := extAt_split a l i hi
  rw [e2]
  subst e
  have hx : x ∈ p ++ x :: q := List.mem_append_right _ List.mem_cons_self
  have mm : ∀ y, y ∈ p ++ (x ++ [a]) :: q → y ∈ p ++ x :: q ∨ y = x ++ [a] := fun y hy => by
    rcases List.mem_append.mp hy with z | z
    · exact .inl (List.mem_append_left _ z)
    · (rcases List.mem_cons.mp z with z | z)
      · exact .inr z
      · exact .inl (List.mem_append_right _ (List.mem_cons_of_mem _ z))
  refine ⟨?_, fun y hy => ?_, fun y hy => ?_, ?_⟩
  · have hp := h.perm
    rw [List.flatten_append, List.flatten_cons] at hp ⊢
    refine List.Perm.trans ?_ (List.Perm.append_right [a] hp)
    (rw [List.append_assoc, List.append_assoc, List.append_assoc])
    refine List.Perm.append_left _ (List.Perm.append_left _ ?_)
    exact List.perm_append_comm
  · rcases mm y hy with z | z
    · exact h.ne y z
    · rw [z]
      simp
  · rcases mm y hy with z | z
    · exact h.asc y z
    · rw [z, List.pairwise_append]
      refine ⟨h.asc x hx, List.pairwise_singleton _ _, fun b hb c hc => ?_⟩
      rw [List.mem_singleton] at hc
      rw [hc]
      exact hl b (h.mem hx hb)
  · have hh := h.heads
    rw [List.pairwise_append, List.pairwise_cons] at hh ⊢
    refine ⟨hh.1, ⟨fun y hy => ?_, hh.2.1.2⟩, fun y hy z hz => ?_⟩
    · rw [headD_app (h.ne x hx)]
      exact hh.2.1.1 y hy
    · rcases List.mem_cons.mp hz with rfl | hz
      · rw [headD_app (h.ne x hx)]
        exact hh.2.2 y hy x List.mem_cons_self
      · exact hh.2.2 y hy z (List.mem_cons_of_mem _ hz)
theorem lotsOk_ext {as : List Int} {l m : Lots} {a : Int} (h : LotsOk as l) (hl : ∀ b ∈ as, b < a) (hm : m ∈ ext a l) : LotsOk (as ++ [a]) m := by
  (rcases List.mem_cons.mp hm with rfl | hm)
  · exact lotsOk_new h hl
  · obtain ⟨i, hi, rfl⟩ := List.mem_map.mp hm
    exact lotsOk_at h hl (List.mem_range.mp hi)
theorem LotsOk.len {as : List Int} {l : Lots} (h : LotsOk as l) : l.length ≤ as.length := by
  have e := h.perm.length_eq
  have : ∀ l : Lots, (∀ x ∈ l, x ≠ []) → l.length ≤ l.flatten.length := by
    intro l
    induction l with
    | nil => intro _; exact Nat.le_refl _
    | cons x r ih =>
      intro hn
      have := ih fun y hy => hn y (List.mem_cons_of_mem _ hy)
      have := List.length_pos_iff.mpr (hn x List.mem_cons_self)
      rw [List.flatten_cons, List.length_append, List.length_cons]
      omega
  have := this l h.ne
  omega
abbrev Asc (as : List Int) : Prop := as.Pairwise (· < ·)
theorem lawAll_snoc (as : List Int) (a : Int) : lawAll (as ++ [a]) = lawStep (lawAll as) a := by
  unfold lawAll
  rw [List.foldl_append]
  rfl
theorem asc_snoc {as : List Int} {a : Int} (h : Asc (as ++ [a])) : Asc as ∧ ∀ b ∈ as, b < a := by
  unfold Asc at h
  rw [List.pairwise_append] at h
  exact ⟨h.1, fun b hb => h.2.2 b hb a (List.mem_singleton.mpr rfl)⟩
theorem snoc_ind {P : List Int → Prop} (h0 : P []) (hs : ∀ as a, P as → P (as ++ [a])) : ∀ as, P as := by
  intro as
  have : ∀ n (as : List Int), as.length = n → P as := by
    intro n
    induction n with
    | zero =>
      intro as h
      rw [List.eq_nil_of_length_eq_zero h]
      exact h0
    | succ n ih =>
      intro as h
      have hne : as ≠ [] := by
        intro q
        rw [q] at h
        cases h
      rw [← List.dropLast_concat_getLast hne]
      exact hs _ _ (ih _ (by rw [List.length_dropLast, h]; rfl))
  exact this _ as rfl
theorem lawAll_ok : ∀ as : List Int, Asc as → ∀ l ∈ lawAll as, LotsOk as l := by
  refine snoc_ind ?_ ?_
  · intro _ l hl
    have : l = [] := by simpa [lawAll] using hl
    rw [this]
    exact lotsOk_nil
  · intro as a ih h l hl
    obtain ⟨h1, h2⟩ := asc_snoc h
    rw [lawAll_snoc] at hl
    obtain ⟨m, hm, hl⟩ := List.mem_flatMap.mp hl
    exact lotsOk_ext (ih h1 m hm) h2 hl
theorem ext_length (a : Int) (l : Lots) : (ext a l).length = l.length + 1 := by
  unfold ext
  rw [List.length_cons, List.length_map, List.length_range]
theorem sum_le_mul : ∀ (l : List Nat) (k : Nat), (∀ x ∈ l, x ≤ k) → l.sum ≤ l.length * k
  | [], _, _ => by simp
  | x :: r, k, h => by
    have := sum_le_mul r k fun y hy => h y (List.mem_cons_of_mem _ hy)
    have := h x List.mem_cons_self
    rw [List.sum_cons, List.length_cons, Nat.succ_mul]
    omega
def fact : Nat → Nat
  | 0 => 1
  | n + 1 => (n + 1) * fact n
theorem fact_pos : ∀ n, 0 < fact n
  | 0 => by decide
  | n + 1 => Nat.mul_pos (Nat.succ_pos n) (fact_pos n)
theorem fact_mono {m n : Nat} (h : m ≤ n) : fact m ≤ fact n := by
  induction h with
  | refl => exact Nat.le_refl _
  | step _ ih => exact Nat.le_trans ih (Nat.le_mul_of_pos_left _ (Nat.succ_pos _))
theorem lawAll_count : ∀ as : List Int, Asc as → (lawAll as).length ≤ fact as.length := by
  refine snoc_ind ?_ ?_
  · intro _
    decide
  · intro as a ih h
    obtain ⟨h1, _⟩ := asc_snoc h
    have i := ih h1
    rw [lawAll_snoc]
    unfold lawStep
    rw [List.length_flatMap]
    have := sum_le_mul (List.map (fun l => (ext a l).length) (lawAll as)) (as.length + 1) (fun x hx => by
      obtain ⟨l, hl, rfl⟩ := List.mem_map.mp hx
      rw [ext_length]
      have := (lawAll_ok as h1 l hl).len
      omega)
    rw [List.length_map] at this
    (rw [List.length_append, List.length_singleton])
    show _ ≤ (as.length + 1) * fact as.length
    refine Nat.le_trans this ?_
    rw [Nat.mul_comm]
    exact Nat.mul_le_mul_left _ i
theorem singles_in : ∀ as : List Int, (as.map fun a => [a]) ∈ lawAll as := by
  refine snoc_ind ?_ ?_
  · simp [lawAll]
  · intro as a ih
    rw [lawAll_snoc, List.map_append]
    exact List.mem_flatMap.mpr ⟨_, ih, List.mem_cons_self⟩
theorem whole_in : ∀ as : List Int, as ≠ [] → [as] ∈ lawAll as := by
  refine snoc_ind ?_ ?_
  · intro h
    exact absurd rfl h
  · intro as a ih _
    rw [lawAll_snoc]
    by_cases h : as = []
    · subst h
      exact List.mem_flatMap.mpr ⟨[], by simp [lawAll], by simp [ext]⟩
    · refine List.mem_flatMap.mpr ⟨_, ih h, List.mem_cons_of_mem _ (List.mem_map.mpr ⟨0, by simp, ?_⟩)⟩
      simp [extAt]

/-! ### heads of lots -/
def headOf (l : Lots) (a : Int) : Int := ((l.find? fun x => decide (a ∈ x)).getD []).headD 0
theorem asc_nodup {as : List Int} (h : Asc as) : as.Nodup := h.imp fun q => by omega
theorem headOf_eq {as : List Int} {l : Lots} (ha : Asc as) (h : LotsOk as l) {x : List Int} {a : Int} (hx : x ∈ l) (hax : a ∈ x) : headOf l a = x.headD 0 := by
  have nd : l.flatten.Nodup := h.perm.nodup_iff.mpr (asc_nodup ha)
  have : ∀ l : Lots, l.flatten.Nodup → x ∈ l → l.find? (fun x => decide (a ∈ x)) = some x := by
    intro l
    induction l with
    | nil => intro _ h; cases h
    | cons y r ih =>
      intro nd hx
      rw [List.flatten_cons, List.nodup_append] at nd
      rw [List.find?_cons]
      by_cases q : a ∈ y
      · rw [decide_eq_true q]
        rcases List.mem_cons.mp hx with e | e
        · rw [e]
        · exact absurd rfl (nd.2.2 a q a (List.mem_flatten.mpr ⟨x, e, hax⟩))
      · rw [decide_eq_false q]
        rcases List.mem_cons.mp hx with e | e
        · rw [e] at hax
          exact absurd hax q
        · exact ih nd.2.1 e
  unfold headOf
  rw [this l nd hx]
  rfl
theorem LotsOk.lot {as : List Int} {l : Lots} (h : LotsOk as l) {a : Int} (ha : a ∈ as) : ∃ x ∈ l, a ∈ x := by
  obtain ⟨x, h1, h2⟩ := List.mem_flatten.mp (h.perm.mem_iff.mpr ha)
  exact ⟨x, h1, h2⟩
theorem headOf_mem {as : List Int} {l : Lots} (hs : Asc as) (h : LotsOk as l) {a : Int} (ha : a ∈ as) : headOf l a ∈ as := by
  obtain ⟨x, h1, h2⟩ := h.lot ha
  rw [headOf_eq hs h h1 h2]
  exact h.mem h1 (headD_mem (h.ne x h1))
theorem headOf_id {as : List Int} {l : Lots} (hs : Asc as) (h : LotsOk as l) (hl : l.length = as.length) {a : Int} (ha : a ∈ as) : headOf l a = a := by
  have e : l.flatten.length = l.length := by rw [h.perm.length_eq, hl]
  have one : ∀ l : Lots, (∀ x ∈ l, x ≠ []) → l.flatten.length = l.length → ∀ x ∈ l, x.length = 1 := by
    intro l
    induction l with
    | nil => intro _ _ x hx; cases hx
    | cons y r ih =>
      intro hn e x hx
      have hr : r.length ≤ r.flatten.length := by
        have : ∀ l : Lots, (∀ x ∈ l, x ≠ []) → l.length ≤ l.flatten.length := by
          intro l
          induction l with
          | nil => intro _; exact Nat.le_refl _
          | cons x r ih =>
            intro hn
            have := ih fun y hy => hn y (List.mem_cons_of_mem _ hy)
            have := List.length_pos_iff.mpr (hn x List.mem_cons_self)
            rw [List.flatten_cons, List.length_append, List.length_cons]
            omega
        exact this r fun z hz => hn z (List.mem_cons_of_mem _ hz)
      have hy := List.length_pos_iff.mpr (hn y List.mem_cons_self)
      rw [List.flatten_cons, List.length_append, List.length_cons] at e
      rcases List.mem_cons.mp hx with q | q
      · rw [q]; omega
      · exact ih (fun z hz => hn z (List.mem_cons_of_mem _ hz)) (by omega) x q
  obtain ⟨x, h1, h2⟩ := h.lot ha
  rw [headOf_eq hs h h1 h2]
  have := one l h.ne e x h1
  match x, this, h2 with
  | [b], _, h2 =>
    rw [List.mem_singleton] at h2
    rw [h2]
    rfl
theorem singles_len (as : List Int) : (as.map fun a => [a]).length = as.length := List.length_map _
theorem headOf_whole {as : List Int} {a : Int} (ha : a ∈ as) : headOf [as] a = as.headD 0 := by
  unfold headOf
  rw [List.find?_cons, decide_eq_true ha]
  rfl

/-! ### ascending lists are told by their members -/
theorem asc_ext : ∀ {as bs : List Int}, Asc as → Asc bs → (∀ a, a ∈ as ↔ a ∈ bs) → as = bs
  | [], [], _, _, _ => rfl
  | [], b :: _, _, _, h => absurd ((h b).mpr List.mem_cons_self) (by simp)
  | a :: _, [], _, _, h => absurd ((h a).mp List.mem_cons_self) (by simp)
  | a :: as, b :: bs, h1, h2, h => by
    unfold Asc at h1 h2
    rw [List.pairwise_cons] at h1 h2
    have e : a = b := by
      rcases List.mem_cons.mp ((h a).mp List.mem_cons_self) with q | q
      · exact q
      · rcases List.mem_cons.mp ((h b).mpr List.mem_cons_self) with q' | q'
        · exact q'.symm
        · have := h1.1 b q'
          have := h2.1 a q
          omega
    subst e
    congr 1
    refine asc_ext h1.2 h2.2 fun x => ⟨fun hx => ?_, fun hx => ?_⟩
    · rcases List.mem_cons.mp ((h x).mp (List.mem_cons_of_mem _ hx)) with q | q
      · have := h1.1 x hx
        omega
      · exact q
    · rcases List.mem_cons.mp ((h x).mpr (List.mem_cons_of_mem _ hx)) with q | q
      · have := h2.1 x hx
        omega
      · exact q
/-- a list in order, without like neighbours, told by its members -/
theorem asc_of_le : ∀ {as : List Int}, as.Pairwise (· ≤ ·) → as.Nodup → Asc as
  | [], _, _ => .nil
  | a :: as, h, nd => by
    rw [List.pairwise_cons] at h
    rw [List.nodup_cons] at nd
    refine List.pairwise_cons.mpr ⟨fun b hb => ?_, asc_of_le h.2 nd.2⟩
    have := h.1 b hb
    rcases Int.lt_or_eq_of_le this with q | q
    · exact q
    · exact absurd (q ▸ hb) nd.1
theorem lotsOk_sorted {as xs : List Int} {l : Lots} (hs : Asc as) (h : LotsOk as l) (p : xs.Perm l.flatten) (hx : xs.Pairwise (· ≤ ·)) : xs = as := by
  have q := p.trans h.perm
  exact asc_ext (asc_of_le hx (q.nodup_iff.mpr (asc_nodup hs))) hs fun a => q.mem_iff

/-! ### tables -/
abbrev Tab := List (List Int)
structure TabOk (t : Tab) (n m : Nat) : Prop where
  rows : t.length = n
  cols : ∀ r ∈ t, r.length = m
  n1 : 1 ≤ n
  n6 : n ≤ 6
  m1 : 1 ≤ m
  m6 : m ≤ 6
  rng : ∀ r ∈ t, ∀ a ∈ r, 0 ≤ a ∧ a ≤ 99
def cell (t : Tab) (x y : Nat) : Int := (t.getD x []).getD y 0
def turnT (t : Tab) (m : Nat) : Tab := (List.range m).map fun y => t.map fun r => r.getD y 0
def blurT (l : Lots) (t : Tab) : Tab := t.map fun r => r.map (headOf l)
structure AnsOf (t : Tab) (as : List Int) : Prop where
  asc : Asc as
  mem : ∀ a, a ∈ as ↔ ∃ r ∈ t, a ∈ r
theorem AnsOf.eq {t : Tab} {as bs : List Int} (h : AnsOf t as) (k : AnsOf t bs) : as = bs := asc_ext h.asc k.asc fun a => (h.mem a).trans (k.mem a).symm
theorem TabOk.row {t : Tab} {n m : Nat} (h : TabOk t n m) {x : Nat} (hx : x < n) : ∃ r, t[x]? = some r ∧ r ∈ t ∧ r.length = m := by
  have hx' : x < t.length := by rw [h.rows]; exact hx
  exact ⟨t[x], List.getElem?_eq_getElem hx', List.getElem_mem hx', h.cols _ (List.getElem_mem hx')⟩
theorem TabOk.get {t : Tab} {n m : Nat} (h : TabOk t n m) {x y : Nat} (hx : x < n) (hy : y < m) : ∃ r, t[x]? = some r ∧ r ∈ t ∧ r[y]? = some (cell t x y) := by
  obtain ⟨r, h1, h2, h3⟩ := h.row hx
  refine ⟨r, h1, h2, ?_⟩
  have e : t.getD x [] = r := by
    rw [List.getD_eq_getElem?_getD, h1]
    rfl
  have hy' : y < r.length := by omega
  unfold cell
  rw [e, List.getD_eq_getElem?_getD, List.getElem?_eq_getElem hy']
  rfl
theorem cell_turn {t : Tab} {n m : Nat} (h : TabOk t n m) {x y : Nat} (hx : x < n) (hy : y < m) : cell (turnT t m) y x = cell t x y := by
  obtain ⟨r, h1, _, _⟩ := h.row hx
  unfold cell turnT
  simp [List.getD_eq_getElem?_getD, List.getElem?_map, h1, List.getElem?_range hy]
theorem turn_ok {t : Tab} {n m : Nat} (h : TabOk t n m) : TabOk (turnT t m) m n := by
  refine ⟨by simp [turnT], fun r hr => ?_, h.m1, h.m6, h.n1, h.n6, fun r hr a ha => ?_⟩
  · obtain ⟨y, _, rfl⟩ := List.mem_map.mp hr
    rw [List.length_map, h.rows]
  · obtain ⟨y, hy, rfl⟩ := List.mem_map.mp hr
    obtain ⟨r, hr, rfl⟩ := List.mem_map.mp ha
    have hy' : y < r.length := by rw [h.cols r hr]; exact List.mem_range.mp hy
    rw [List.getD_eq_getElem?_getD, List.getElem?_eq_getElem hy']
    exact h.rng r hr _ (List.getElem_mem hy')
theorem cell_blur {l : Lots} {t : Tab} {n m : Nat} (h : TabOk t n m) {x y : Nat} (hx : x < n) (hy : y < m) : cell (blurT l t) x y = headOf l (cell t x y) := by
  obtain ⟨r, h1, h2, h3⟩ := h.get hx hy
  have e : (blurT l t).getD x [] = r.map (headOf l) := by
    unfold blurT
    rw [List.getD_eq_getElem?_getD, List.getElem?_map, h1]
    rfl
  show ((blurT l t).getD x []).getD y 0 = _
  rw [e, List.getD_eq_getElem?_getD, List.getElem?_map, h3]
  rfl
theorem cell_mem {t : Tab} {n m : Nat} (h : TabOk t n m) {x y : Nat} (hx : x < n) (hy : y < m) : ∃ r ∈ t, cell t x y ∈ r := by
  obtain ⟨r, _, h2, h3⟩ := h.get hx hy
  exact ⟨r, h2, List.mem_of_getElem? h3⟩
theorem blur_ok {as : List Int} {l : Lots} {t : Tab} {n m : Nat} (h : TabOk t n m) (ha : AnsOf t as) (hl : LotsOk as l) : TabOk (blurT l t) n m := by
  refine ⟨by rw [blurT, List.length_map, h.rows], fun r hr => ?_, h.n1, h.n6, h.m1, h.m6, fun r hr a hra => ?_⟩
  · obtain ⟨r', hr', rfl⟩ := List.mem_map.mp hr
    rw [List.length_map, h.cols r' hr']
  · obtain ⟨r', hr', rfl⟩ := List.mem_map.mp hr
    obtain ⟨b, hb, rfl⟩ := List.mem_map.mp hra
    obtain ⟨r2, h1, h2⟩ := (ha.mem _).mp (headOf_mem ha.asc hl ((ha.mem b).mpr ⟨r', hr', hb⟩))
    exact h.rng r2 h1 _ h2
theorem blur_id {as : List Int} {l : Lots} {t : Tab} (ha : AnsOf t as) (hl : LotsOk as l) (e : l.length = as.length) : blurT l t = t := by
  unfold blurT
  conv => rhs; rw [← List.map_id t]
  refine List.map_congr_left fun r hr => ?_
  conv => rhs; rw [id, ← List.map_id r]
  refine List.map_congr_left fun a har => ?_
  exact headOf_id ha.asc hl e ((ha.mem a).mpr ⟨r, hr, har⟩)
end K15
namespace K15
open PySem L2 Evl
/-! ### data without lists -/
mutual
def noL : PyData → Bool
  | .list _ => false
  | .tuple xs => noLs xs
  | .dict _ => false
  | .none => true
  | .bool _ => true
  | .int _ => true
  | .str _ => true
def noLs : List PyData → Bool
  | [] => true
  | d :: ds => noL d && noLs ds
end
/-- tuples stay -/
def fixO : HO → Bool
  | .tup _ => true
  | .frz _ _ => true
  | _ => false
def Tst (H H' : Hp) : Prop := ∀ b o, H b = some o → fixO o = true → H' b = some o
theorem Tst.refl (H : Hp) : Tst H H := fun _ _ h _ => h
theorem Tst.trans {H H1 H2 : Hp} (a : Tst H H1) (b : Tst H1 H2) : Tst H H2 := fun c o h f => b c o (a c o h f) f
theorem ts_ex {H H' : Hp} (e : Ex H H') : Tst H H' := fun b o h _ => e b o h
theorem ts_upd {H : Hp} {a : Addr} {o u : HO} (h : H a = some o) (f : fixO o = false) : Tst H (upd H a u) := fun b x e g => by
  have hb : b ≠ a := by
    intro q
    subst q
    rw [h] at e
    cases e
    rw [f] at g
    cases g
  rw [upd_ne hb]
  exact e
theorem ts_rd {H H' : Hp} {a : Addr} {u : HO} (e : Tst H H') (fu : fixO u = true) (h : Rd H a u) : Rd H' a u := by
  rcases h with h | ⟨o, h⟩
  · exact Or.inl (e a _ h fu)
  · exact Or.inr ⟨o, e a _ h rfl⟩
theorem ts_t {K : PySem.W.Frag} {H H' : Hp} {a : Addr} {xs : List V} (e : Tst H H') (h : SqT K H a xs) : SqT K H' a xs := by
  rcases h with h | h
  · exact Or.inl (ts_rd e rfl h)
  · exact Or.inr h
section
variable {K : PySem.W.Frag} {H H' : Hp}
mutual
theorem dp_ts (e : Tst H H') : ∀ (d : PyData) (v : V), noL d = true → Dp K H v d → Dp K H' v d
  | .none, _, _, h => by cases h; exact .non
  | .bool _, _, _, h => by cases h; exact .bl _
  | .int _, _, _, h => by cases h; exact .int _
  | .str _, _, _, h => by cases h; exact .str _
  | .list _, _, n, _ => by simp [noL] at n
  | .tuple ds, _, n, h => by
    cases h with
    | tup hs ha => exact .tup (ts_t e hs) (dps_ts e ds _ (by simpa [noL] using n) ha)
  | .dict _, _, n, _ => by simp [noL] at n
theorem dps_ts (e : Tst H H') : ∀ (ds : List PyData) (vs : List V), noLs ds = true → DpAll K H vs ds → DpAll K H' vs ds
  | [], _, _, h => by cases h; exact .nil
  | d :: ds, _, n, h => by
    cases h with
    | cons h1 h2 =>
      have n' : noL d = true ∧ noLs ds = true := by simpa [noLs] using n
      exact .cons (dp_ts e d _ n'.1 h1) (dps_ts e ds _ n'.2 h2)
end
mutual
theorem dp_ex (e : Ex H H') : ∀ (d : PyData) (v : V), Dp K H v d → Dp K H' v d
  | .none, _, h => by cases h; exact .non
  | .bool _, _, h => by cases h; exact .bl _
  | .int _, _, h => by cases h; exact .int _
  | .str _, _, h => by cases h; exact .str _
  | .list ds, _, h => by
    cases h with
    | lst hs ha => exact .lst (ex_l e hs) (dps_ex e ds _ ha)
  | .tuple ds, _, h => by
    cases h with
    | tup hs ha => exact .tup (ex_t e hs) (dps_ex e ds _ ha)
  | .dict _, _, h => by cases h
theorem dps_ex (e : Ex H H') : ∀ (ds : List PyData) (vs : List V), DpAll K H vs ds → DpAll K H' vs ds
  | [], _, h => by cases h; exact .nil
  | d :: ds, _, h => by
    cases h with
    | cons h1 h2 => exact .cons (dp_ex e d _ h1) (dps_ex e ds _ h2)
end
theorem dps_len : ∀ {ds : List PyData} {vs : List V}, DpAll K H vs ds → vs.length = ds.length
  | [], _, h => by cases h; rfl
  | d :: ds, _, h => by
    cases h with
    | cons h1 h2 => rw [List.length_cons, List.length_cons, dps_len h2]
theorem dps_get : ∀ {ds : List PyData} {vs : List V} {i : Nat} {d : PyData}, DpAll K H vs ds → ds[i]? = some d → ∃ v, vs[i]? = some v ∧ Dp K H v d
  | [], _, _, _, _, e => by simp at e
  | d :: ds, _, 0, _, h, e => by
    cases h with
    | cons h1 h2 =>
      have e' := Option.some.inj e
      subst e'
      exact ⟨_, rfl, h1⟩
  | d :: ds, _, i + 1, _, h, e => by
    cases h with
    | cons h1 h2 =>
      obtain ⟨v, q1, q2⟩ := dps_get h2 (by simpa using e)
      exact ⟨v, by simpa using q1, q2⟩
theorem dps_get' : ∀ {ds : List PyData} {vs : List V} {i : Nat} {v : V}, DpAll K H vs ds → vs[i]? = some v → ∃ d, ds[i]? = some d ∧ Dp K H v d
  | [], _, _, _, h, e => by cases h; simp at e
  | d :: ds, _, 0, _, h, e => by
    cases h with
    | cons h1 h2 =>
      have e' := Option.some.inj e
      subst e'
      exact ⟨_, rfl, h1⟩
  | d :: ds, _, i + 1, _, h, e => by
    cases h with
    | cons h1 h2 =>
      obtain ⟨v, q1, q2⟩ := dps_get' h2 (by simpa using e)
      exact ⟨v, by simpa using q1, q2⟩
theorem dps_app : ∀ {ds es : List PyData} {vs ws : List V}, DpAll K H vs ds → DpAll K H ws es → DpAll K H (vs ++ ws) (ds ++ es)
  | [], _, _, _, h, k => by cases h; exact k
  | d :: ds, _, _, _, h, k => by
    cases h with
    | cons h1 h2 => exact .cons h1 (dps_app h2 k)
theorem dps_snoc {ds : List PyData} {vs : List V} {d : PyData} {v : V} (h : DpAll K H vs ds) (k : Dp K H v d) : DpAll K H (vs ++ [v]) (ds ++ [d]) := dps_app h (.cons k .nil)
theorem dps_take : ∀ {ds : List PyData} {vs : List V} (n : Nat), DpAll K H vs ds → DpAll K H (vs.take n) (ds.take n)
  | _, _, 0, _ => by rw [List.take_zero, List.take_zero]; exact .nil
  | _, _, n + 1, h => by
    cases h with
    | nil => exact .nil
    | cons h1 h2 => exact .cons h1 (dps_take n h2)
theorem dps_drop : ∀ {ds : List PyData} {vs : List V} (n : Nat), DpAll K H vs ds → DpAll K H (vs.drop n) (ds.drop n)
  | _, _, 0, h => h
  | _, _, n + 1, h => by
    cases h with
    | nil => exact .nil
    | cons h1 h2 => exact dps_drop n h2
theorem dp_int {v : V} {n : Int} (h : Dp K H v (.int n)) : v = .int n := by cases h; rfl
theorem dp_bool {v : V} {b : Bool} (h : Dp K H v (.bool b)) : v = .bl b := by cases h; rfl
theorem dp_none {v : V} (h : Dp K H v .none) : v = .non := by cases h; rfl
theorem dp_tup {v : V} {ds : List PyData} (h : Dp K H v (.tuple ds)) : ∃ a vs, v = .ref a ∧ SqT K H a vs ∧ DpAll K H vs ds := by
  cases h with
  | tup hs ha => exact ⟨_, _, rfl, hs, ha⟩
theorem dp_lst {v : V} {ds : List PyData} (h : Dp K H v (.list ds)) : ∃ a vs, v = .ref a ∧ SqL K H a vs ∧ DpAll K H vs ds := by
  cases h with
  | lst hs ha => exact ⟨_, _, rfl, hs, ha⟩
theorem dps_ints : ∀ {ns : List Int} {vs : List V}, DpAll K H vs (ns.map .int) → vs = ns.map V.int
  | [], _, h => by cases h; rfl
  | n :: ns, _, h => by
    cases h with
    | cons h1 h2 => rw [dp_int h1, dps_ints h2]; rfl
theorem dps_bools : ∀ {bs : List Bool} {vs : List V}, DpAll K H vs (bs.map .bool) → vs = bs.map V.bl
  | [], _, h => by cases h; rfl
  | b :: bs, _, h => by
    cases h with
    | cons h1 h2 => rw [dp_bool h1, dps_bools h2]; rfl
theorem dps_of_ints : ∀ (ns : List Int), DpAll K H (ns.map V.int) (ns.map .int)
  | [] => .nil
  | n :: ns => .cons (.int n) (dps_of_ints ns)
theorem dpAll_forall {α : Type} (enc : α → PyData) {A : List α} {vs : List V} (h : DpAll K H vs (A.map enc)) {i : Nat} {v : V} (e : vs[i]? = some v) : ∃ a, A[i]? = some a ∧ Dp K H v (enc a) := by
  obtain ⟨d, h1, h2⟩ := dps_get' h e
  rw [List.getElem?_map] at h1
  cases q : A[i]? with
  | none => rw [q] at h1; cases h1
  | some a =>
    rw [q] at h1
    have := Option.some.inj h1
    exact ⟨a, rfl, by rw [this]; exact h2⟩
end
theorem noLs_map {α : Type} {f : α → PyData} : ∀ {A : List α}, (∀ a ∈ A, noL (f a) = true) → noLs (A.map f) = true
  | [], _ => rfl
  | a :: A, h => by
    rw [List.map_cons, noLs, h a List.mem_cons_self, noLs_map fun b hb => h b (List.mem_cons_of_mem _ hb)]
    rfl
theorem noLs_app : ∀ {ds es : List PyData}, noLs ds = true → noLs es = true → noLs (ds ++ es) = true
  | [], _, _, h => h
  | d :: ds, es, h, k => by
    rw [noLs, Bool.and_eq_true] at h
    rw [List.cons_append, noLs, h.1, noLs_app h.2 k]
    rfl

/-! ### what evaluates to what datum -/
def Ed (K : PySem.W.Frag) (te : TE) (σ : L2.St) (H : Hp) (d : PyData) : Prop := ∀ H1, Ex H H1 → ∀ Q : VK, (∀ v H2, Ex H1 H2 → Dp K H2 v d → Q v H2) → te σ H1 Q
def EdA (K : PySem.W.Frag) (ta : TA) (σ : L2.St) (H : Hp) (ds : List PyData) : Prop := ∀ H1, Ex H H1 → ∀ Q : List V → Hp → Prop, (∀ vs H2, Ex H1 H2 → DpAll K H2 vs ds → Q vs H2) → ta σ H1 Q
section
variable {K : PySem.W.Frag} {σ : L2.St} {H H' : Hp} {ta tb te tl : TE} {tt tt' : TT} {d d1 d2 : PyData} {ds : List PyData}
theorem Ed.mono (e : Ex H H') (h : Ed K te σ H d) : Ed K te σ H' d := fun H1 a Q q => h H1 (e.trans a) Q q
theorem EdA.mono {ta : TA} (e : Ex H H') (h : EdA K ta σ H ds) : EdA K ta σ H' ds := fun H1 a Q q => h H1 (e.trans a) Q q
theorem Ed.is (h : Ed K te σ H d) (e : d = d1) : Ed K te σ H d1 := by rw [← e]; exact h
theorem ed_ev {v : V} (h : Evl.Ev te σ H v) (hd : ∀ H1, Ex H H1 → Dp K H1 v d) : Ed K te σ H d := fun H1 e Q q => h H1 e Q fun H2 e2 => q v H2 e2 (hd H2 (e.trans e2))
theorem ed_var {i : Nat} {v : V} (h : σ[i]? = some (some v)) (hd : Dp K H v d) : Ed K (tVar i) σ H d := ed_ev (ev_var h) fun _ e => dp_ex e _ _ hd
theorem ed_int {n : Int} : Ed K (tC (.int n)) σ H (.int n) := ed_ev ev_c fun _ _ => .int n
theorem ed_bl {n : Bool} : Ed K (tC (.bl n)) σ H (.bool n) := ed_ev ev_c fun _ _ => .bl n
theorem ed_non : Ed K (tC .non) σ H .none := ed_ev ev_c fun _ _ => .non
theorem ev_ed {n : Int} (h : Ed K te σ H (.int n)) : Evl.Ev te σ H (.int n) := fun H1 e Q q => h H1 e Q fun v H2 e2 hd => by rw [dp_int hd]; exact q H2 e2
theorem ev_edb {b : Bool} (h : Ed K te σ H (.bool b)) : Evl.Ev te σ H (.bl b) := fun H1 e Q q => h H1 e Q fun v H2 e2 hd => by rw [dp_bool hd]; exact q H2 e2
/-- two values, an operator's rule -/
theorem ed_op {r : R2} (ha : Ed K ta σ H d1) (hb : Ed K tb σ H d2) (hr : ∀ x y H1, Ex H H1 → Dp K H1 x d1 → Dp K H1 y d2 → ∀ Q : VK, (∀ v H2, Ex H1 H2 → Dp K H2 v d → Q v H2) → r x y H1 Q) : Ed K (tOp r ta tb) σ H d := fun H1 e Q q =>
  ha H1 e _ fun x H2 e2 hx => hb H2 (e.trans e2) _ fun y H3 e3 hy => hr x y H3 ((e.trans e2).trans e3) (dp_ex e3 _ _ hx) hy Q fun v H4 e4 => q v H4 ((e2.trans e3).trans e4)
theorem ed_I0 {g : Int → Int → V} {i j : Int} (ha : Ed K ta σ H (.int i)) (hb : Ed K tb σ H (.int j)) (hg : ∀ H1, Dp K H1 (g i j) d) : Ed K (tOp (rI0 g) ta tb) σ H d :=
  ed_op ha hb fun x y H1 _ hx hy Q q => ⟨i, j, dp_int hx, dp_int hy, q _ H1 (Ex.refl H1) (hg H1)⟩
theorem ed_I {C : Int → Int → Prop} {g : Int → Int → V} {i j : Int} (ha : Ed K ta σ H (.int i)) (hb : Ed K tb σ H (.int j)) (hc : C i j) (hg : ∀ H1, Dp K H1 (g i j) d) : Ed K (tOp (rI C g) ta tb) σ H d :=
  ed_op ha hb fun x y H1 _ hx hy Q q => ⟨i, j, dp_int hx, dp_int hy, hc, q _ H1 (Ex.refl H1) (hg H1)⟩
theorem ed_eqI {i j : Int} (ha : Ed K ta σ H (.int i)) (hb : Ed K tb σ H (.int j)) : Ed K (tOp rEq ta tb) σ H (.bool (i == j)) :=
  ed_op ha hb fun x y H1 _ hx hy Q q => by
    rw [dp_int hx, dp_int hy]
    refine ⟨rfl, ?_⟩
    rw [dec_int]
    exact q _ H1 (Ex.refl H1) (.bl _)
theorem ed_neI {i j : Int} (ha : Ed K ta σ H (.int i)) (hb : Ed K tb σ H (.int j)) : Ed K (tOp rNe ta tb) σ H (.bool (!(i == j))) :=
  ed_op ha hb fun x y H1 _ hx hy Q q => by
    rw [dp_int hx, dp_int hy]
    refine ⟨rfl, ?_⟩
    rw [dec_int]
    exact q _ H1 (Ex.refl H1) (.bl _)
theorem ed_eqB {i j : Bool} (ha : Ed K ta σ H (.bool i)) (hb : Ed K tb σ H (.bool j)) : Ed K (tOp rEq ta tb) σ H (.bool (i == j)) :=
  ed_op ha hb fun x y H1 _ hx hy Q q => by
    rw [dp_bool hx, dp_bool hy]
    refine ⟨rfl, ?_⟩
    rw [dec_bl]
    exact q _ H1 (Ex.refl H1) (.bl _)
theorem ed_neB {i j : Bool} (ha : Ed K ta σ H (.bool i)) (hb : Ed K tb σ H (.bool j)) : Ed K (tOp rNe ta tb) σ H (.bool (!(i == j))) :=
  ed_op ha hb fun x y H1 _ hx hy Q q => by
    rw [dp_bool hx, dp_bool hy]
    refine ⟨rfl, ?_⟩
    rw [dec_bl]
    exact q _ H1 (Ex.refl H1) (.bl _)
theorem ed_eqD (ha : Ed K ta σ H d1) (hb : Ed K tb σ H d2) (s1 : SeqAt.shaped d1 = true) (s2 : SeqAt.shaped d2 = true) : Ed K (tOp (rEqD K) ta tb) σ H (.bool (PyData.eqv d1 d2)) :=
  ed_op ha hb fun x y H1 _ hx hy Q q => ⟨d1, d2, hx, hy, s1, s2, q _ H1 (Ex.refl H1) (.bl _)⟩
theorem ed_neD (ha : Ed K ta σ H d1) (hb : Ed K tb σ H d2) (s1 : SeqAt.shaped d1 = true) (s2 : SeqAt.shaped d2 = true) : Ed K (tOp (rNeD K) ta tb) σ H (.bool (!PyData.eqv d1 d2)) :=
  ed_op ha hb fun x y H1 _ hx hy Q q => ⟨d1, d2, hx, hy, s1, s2, q _ H1 (Ex.refl H1) (.bl _)⟩
theorem atI_dp {α : Type} {ys : List α} {xs : List V} (hl : xs.length = ys.length) {i : Int} {y : α} (h : atI ys i = some y) : ∃ j : Nat, ys[j]? = some y ∧ ∀ x, xs[j]? = some x → atI xs i = some x := by
  unfold atI at h
  cases q : ixN ys.length i with
  | none => rw [q] at h; cases h
  | some j =>
    rw [q] at h
    refine ⟨j, h, fun x hx => ?_⟩
    unfold atI
    rw [hl, q]
    exact hx
theorem ed_ixT {i : Int} (ha : Ed K ta σ H (.tuple ds)) (hb : Ed K tb σ H (.int i)) (h : atI ds i = some d) : Ed K (tOp (rIxT K) ta tb) σ H d :=
  ed_op ha hb fun x y H1 _ hx hy Q q => by
    obtain ⟨a, vs, rfl, hs, hd⟩ := dp_tup hx
    obtain ⟨j, h1, h2⟩ := atI_dp (dps_len hd) h
    obtain ⟨v, h3, h4⟩ := dps_get hd h1
    exact ⟨a, vs, i, v, rfl, dp_int hy, hs, h2 v h3, q v H1 (Ex.refl H1) h4⟩
theorem ed_ixL {i : Int} (ha : Ed K ta σ H (.list ds)) (hb : Ed K tb σ H (.int i)) (h : atI ds i = some d) : Ed K (tOp (rIxL K) ta tb) σ H d :=
  ed_op ha hb fun x y H1 _ hx hy Q q => by
    obtain ⟨a, vs, rfl, hs, hd⟩ := dp_lst hx
    obtain ⟨j, h1, h2⟩ := atI_dp (dps_len hd) h
    obtain ⟨v, h3, h4⟩ := dps_get hd h1
    exact ⟨a, vs, i, v, rfl, dp_int hy, hs, h2 v h3, q v H1 (Ex.refl H1) h4⟩
theorem ed_if {b : Bool} (h : Evl.EvT tt σ H b) (h1 : b = true → Ed K ta σ H d) (h2 : b = false → Ed K tb σ H d) : Ed K (tIf tt ta tb) σ H d := fun H1 e Q q => h H1 e _ fun H2 e2 => by
  cases b with
  | true => exact h1 rfl H2 (e.trans e2) Q fun v H3 e3 => q v H3 (e2.trans e3)
  | false => exact h2 rfl H2 (e.trans e2) Q fun v H3 e3 => q v H3 (e2.trans e3)
theorem et_testd {b : Bool} (h : Ed K te σ H (.bool b)) : Evl.EvT (tTest te) σ H b := et_test (ev_edb h)
theorem et_Bd {b : Bool} (h : Ed K te σ H (.bool b)) : Evl.EvT (tB te) σ H b := et_B (ev_edb h)
theorem ed_andV {a b : Bool} (h1 : Ed K ta σ H (.bool a)) (h2 : a = true → Ed K tb σ H (.bool b)) : Ed K (tAndV ta tb) σ H (.bool (a && b)) := ed_ev (ev_andV (ev_edb h1) fun h => ev_edb (h2 h)) fun _ _ => .bl _
theorem ed_orV {a b : Bool} (h1 : Ed K ta σ H (.bool a)) (h2 : a = false → Ed K tb σ H (.bool b)) : Ed K (tOrV ta tb) σ H (.bool (a || b)) := ed_ev (ev_orV (ev_edb h1) fun h => ev_edb (h2 h)) fun _ _ => .bl _
theorem ed_notV {a : Bool} (h1 : Ed K ta σ H (.bool a)) : Ed K (tNotV ta) σ H (.bool (!a)) := ed_ev (ev_notV (ev_edb h1)) fun _ _ => .bl _
theorem ea_nilD : EdA K tNil σ H [] := fun H1 _ _ q => q [] H1 (Ex.refl H1) .nil
theorem ea_consD {tr : TA} (h : Ed K ta σ H d) (hr : EdA K tr σ H ds) : EdA K (tCons ta tr) σ H (d :: ds) := fun H1 e _ q =>
  h H1 e _ fun v H2 e2 hv => hr H2 (e.trans e2) _ fun vs H3 e3 hs => q _ H3 (e2.trans e3) (.cons (dp_ex e3 _ _ hv) hs)
theorem ea1 (h : Ed K ta σ H d) : EdA K (tCons ta tNil) σ H [d] := ea_consD h ea_nilD
theorem ea2 (h : Ed K ta σ H d1) (h' : Ed K tb σ H d2) : EdA K (tCons ta (tCons tb tNil)) σ H [d1, d2] := ea_consD h (ea1 h')
theorem ed_tup {t : TA} (h : EdA K t σ H ds) (hl : ds.length ≤ 100000) : Ed K (tTup t) σ H (.tuple ds) := fun H1 e Q q =>
  h H1 e _ fun vs H2 e2 hv => ⟨sz_of (by rw [dps_len hv]; exact hl), fun p hp => q _ _ (e2.trans (Ex.new hp)) (.tup (st_of upd_same) (dps_ex (Ex.new hp) _ _ hv))⟩
theorem ed_lst {t : TA} (h : EdA K t σ H ds) (hl : ds.length ≤ 100000) : Ed K (tLst t) σ H (.list ds) := fun H1 e Q q =>
  h H1 e _ fun vs H2 e2 hv => ⟨sz_of (by rw [dps_len hv]; exact hl), fun p hp => q _ _ (e2.trans (Ex.new hp)) (.lst (sq_of upd_same) (dps_ex (Ex.new hp) _ _ hv))⟩
theorem ed_cb {r : List V → Hp → VK → Prop} {t : TA} (h : EdA K t σ H ds) (hr : ∀ vs H1, Ex H H1 → DpAll K H1 vs ds → ∀ Q : VK, (∀ v H2, Ex H1 H2 → Dp K H2 v d → Q v H2) → r vs H1 Q) : Ed K (tCB r t) σ H d := fun H1 e Q q =>
  h H1 e _ fun vs H2 e2 hv => hr vs H2 (e.trans e2) hv Q fun v H3 e3 => q v H3 (e2.trans e3)
theorem dps_1 {vs : List V} (h : DpAll K H vs [d]) : ∃ v, vs = [v] ∧ Dp K H v d := by
  cases h with
  | cons h1 h2 =>
    cases h2
    exact ⟨_, rfl, h1⟩
theorem dps_2 {vs : List V} (h : DpAll K H vs [d1, d2]) : ∃ v w, vs = [v, w] ∧ Dp K H v d1 ∧ Dp K H w d2 := by
  cases h with
  | cons h1 h2 =>
    obtain ⟨w, rfl, h3⟩ := dps_1 h2
    exact ⟨_, _, rfl, h1, h3⟩
theorem ed_lenT (h : Ed K ta σ H (.tuple ds)) : Ed K (tCB (rLenS K) (tCons ta tNil)) σ H (.int (ds.length : Nat)) := ed_cb (ea1 h) fun vs H1 _ hv Q q => by
  obtain ⟨v, rfl, hw⟩ := dps_1 hv
  obtain ⟨a, xs, rfl, hs, hd⟩ := dp_tup hw
  refine ⟨a, xs, rfl, .inr hs, ?_⟩
  rw [dps_len hd]
  exact q _ H1 (Ex.refl H1) (.int _)
theorem ed_lenL (h : Ed K ta σ H (.list ds)) : Ed K (tCB (rLenS K) (tCons ta tNil)) σ H (.int (ds.length : Nat)) := ed_cb (ea1 h) fun vs H1 _ hv Q q => by
  obtain ⟨v, rfl, hw⟩ := dps_1 hv
  obtain ⟨a, xs, rfl, hs, hd⟩ := dp_lst hw
  refine ⟨a, xs, rfl, .inl hs, ?_⟩
  rw [dps_len hd]
  exact q _ H1 (Ex.refl H1) (.int _)
def rTupS (K : PySem.W.Frag) : List V → Hp → VK → Prop := fun xs H Q => ∃ p ys, xs = [.ref p] ∧ ((SqL K H p ys ∧ ∀ l, H l = none → Q (.ref l) (upd H l (.tup ys))) ∨ (SqT K H p ys ∧ Q (.ref p) H))
theorem ed_tupleL (h : Ed K ta σ H (.list ds)) : Ed K (tCB (rTupS K) (tCons ta tNil)) σ H (.tuple ds) := ed_cb (ea1 h) fun vs H1 _ hv Q q => by
  obtain ⟨v, rfl, hw⟩ := dps_1 hv
  obtain ⟨a, xs, rfl, hs, hd⟩ := dp_lst hw
  exact ⟨a, xs, rfl, .inl ⟨hs, fun l hl => q _ _ (Ex.new hl) (.tup (st_of upd_same) (dps_ex (Ex.new hl) _ _ hd))⟩⟩
theorem ed_listT (h : Ed K ta σ H (.tuple ds)) : Ed K (tCB (rListS K) (tCons ta tNil)) σ H (.list ds) := ed_cb (ea1 h) fun vs H1 _ hv Q q => by
  obtain ⟨v, rfl, hw⟩ := dps_1 hv
  obtain ⟨a, xs, rfl, hs, hd⟩ := dp_tup hw
  exact ⟨a, xs, rfl, .inr hs, fun l hl => q _ _ (Ex.new hl) (.lst (sq_of upd_same) (dps_ex (Ex.new hl) _ _ hd))⟩
def rAllS (K : PySem.W.Frag) : List V → Hp → VK → Prop := rAll K
theorem ed_all {bs : List Bool} (h : Ed K ta σ H (.list (bs.map .bool))) : Ed K (tCB (rAll K) (tCons ta tNil)) σ H (.bool (bs.all id)) := ed_cb (ea1 h) fun vs H1 _ hv Q q => by
  obtain ⟨v, rfl, hw⟩ := dps_1 hv
  obtain ⟨a, xs, rfl, hs, hd⟩ := dp_lst hw
  rw [dps_bools hd] at hs
  exact ⟨a, bs, rfl, hs, q _ H1 (Ex.refl H1) (.bl _)⟩
theorem ed_any {bs : List Bool} (h : Ed K ta σ H (.list (bs.map .bool))) : Ed K (tCB (rAny K) (tCons ta tNil)) σ H (.bool (bs.any id)) := ed_cb (ea1 h) fun vs H1 _ hv Q q => by
  obtain ⟨v, rfl, hw⟩ := dps_1 hv
  obtain ⟨a, xs, rfl, hs, hd⟩ := dp_lst hw
  rw [dps_bools hd] at hs
  exact ⟨a, bs, rfl, hs, q _ H1 (Ex.refl H1) (.bl _)⟩
/-- a call of a def that hands back a datum -/
theorem ed_call {sp : Sp} {E : XK} {t : TA} (h : EdA K t σ H ds) (hs : ∀ vs H1, Ex H H1 → DpAll K H1 vs ds → ∀ Q : VK, (∀ v H2, Ex H1 H2 → Dp K H2 v d → Q v H2) → sp (vs ++ []) H1 Q E) : Ed K (tCall sp [] E t) σ H d := fun H1 e Q q =>
  h H1 e _ fun vs H2 e2 hv => hs vs H2 (e.trans e2) hv Q fun v H3 e3 => q v H3 (e2.trans e3)

/-! ### statements -/
variable {D : Ends} {tz : L2.TS}
theorem d_ret (h : Ed K te σ H d) (k : ∀ v H1, Ex H H1 → Dp K H1 v d → D.rt v H1) : tRet te D σ H := h H (Ex.refl H) _ k
theorem d_asg {i : Nat} (h : Ed K te σ H d) (k : ∀ v H1, Ex H H1 → Dp K H1 v d → D.nx (σ.set i (some v)) H1) : tAsg te (gName i) D σ H := h H (Ex.refl H) _ k
theorem dq_asg {i : Nat} (h : Ed K te σ H d) (k : ∀ v H1, Ex H H1 → Dp K H1 v d → tz D (σ.set i (some v)) H1) : tSeq (tAsg te (gName i)) tz D σ H := d_asg (D := { D with nx := tz D }) h k
theorem d_go (h : Ed K te σ H d) {Q : VK} (k : ∀ v H1, Ex H H1 → Dp K H1 v d → Q v H1) : te σ H Q := h H (Ex.refl H) _ k
theorem a_go {t : TA} (h : EdA K t σ H ds) {Q : List V → Hp → Prop} (k : ∀ v H1, Ex H H1 → DpAll K H1 v ds → Q v H1) : t σ H Q := h H (Ex.refl H) _ k
theorem t_go {b : Bool} (h : Evl.EvT tt σ H b) {Q : Bool → Hp → Prop} (k : ∀ H1, Ex H H1 → Q b H1) : tt σ H Q := h H (Ex.refl H) _ k

/-! ### comprehensions -/
theorem ex_lst {H H1 : Hp} {D : Addr} {xs : List V} (hD : H D = none) (e : Ex H H1) : Ex H (upd H1 D (.lst xs)) := Ex.mut e hD
/-- the word of a comprehension that gives (A.take i).filter p, mapped -/
def Cq {α : Type} (K : PySem.W.Frag) (H : Hp) (A : List α) (p : α → Bool) (f : α → PyData) (Dl : Addr) (i : Nat) (H' : Hp) : Prop := H Dl = none ∧ Ex H H' ∧ ∃ acc, H' Dl = some (.lst acc) ∧ DpAll K H' acc (((A.take i).filter p).map f)
theorem cq_turn {α : Type} {A : List α} {p : α → Bool} {f : α → PyData} {Dl : Addr} {i : Nat} {a : α} {σ2 : L2.St} {t : TT} (q : Cq K H A p f Dl i H') (ha : A[i]? = some a) (hz : A.length ≤ 40000) (hn : ∀ a ∈ A, noL (f a) = true)
    (ht : Evl.EvT t σ2 H' (p a)) (he : p a = true → Ed K te σ2 H' (f a)) :
    t σ2 H' fun b H3 => if b = true then te σ2 H3 fun y H4 => ∃ acc, H4 Dl = some (.lst acc) ∧ acc.length < sizeLine ∧ Cq K H A p f Dl (i + 1) (upd H4 Dl (.lst (acc ++ [y]))) else Cq K H A p f Dl (i + 1) H3 := by
  obtain ⟨q1, q2, acc, q3, q4⟩ := q
  have hm : a ∈ A := List.mem_of_getElem? ha
  have tk : A.take (i + 1) = A.take i ++ [a] := by rw [List.take_add_one, ha]; rfl
  refine ht H' (Ex.refl _) _ fun H3 e3 => ?_
  cases hf : p a with
  | true =>
    rw [if_pos rfl]
    refine he hf H3 e3 _ fun y H4 e4 hy => ⟨acc, e4 Dl _ (e3 Dl _ q3), ?_, q1, ex_lst q1 ((q2.trans e3).trans e4), acc ++ [y], upd_same, ?_⟩
    · refine sz_lt ?_
      rw [dps_len q4, List.length_map]
      have := List.length_filter_le p (A.take i)
      have := List.length_take_le i A
      have := List.length_take_le' i A
      omega
    · have u : Tst H4 (upd H4 Dl (.lst (acc ++ [y]))) := ts_upd (e4 Dl _ (e3 Dl _ q3)) rfl
      rw [tk, List.filter_append, List.map_append, List.filter_cons, if_pos hf]
      refine dps_snoc (dps_ts u _ _ (noLs_map fun b hb => hn b ?_) (dps_ex (e3.trans e4) _ _ q4)) (dp_ts u _ _ (hn a hm) hy)
      exact List.mem_of_mem_take (List.mem_filter.mp hb).1
  | false =>
    rw [if_neg (by decide)]
    refine ⟨q1, q2.trans e3, acc, e3 Dl _ q3, ?_⟩
    rw [tk, List.filter_append, List.filter_cons, if_neg (by rw [hf]; decide), List.filter_nil, List.append_nil]
    exact dps_ex e3 _ _ q4
section
variable {α : Type} {A : List α} {enc f : α → PyData} {p : α → Bool} {j : Nat} {vs : List Nat}
theorem ed_lcT (h : Ed K tl σ H (.tuple (A.map enc))) (hw : ∀ x, wipe ((wipe σ vs).set j (some x)) vs = wipe σ vs) (hz : A.length ≤ 40000) (hn : ∀ a ∈ A, noL (f a) = true)
    (ht : ∀ a ∈ A, ∀ v H1, Ex H H1 → Dp K H1 v (enc a) → Evl.EvT tt ((wipe σ vs).set j (some v)) H1 (p a)) (he : ∀ a ∈ A, p a = true → ∀ v H1, Ex H H1 → Dp K H1 v (enc a) → Ed K te ((wipe σ vs).set j (some v)) H1 (f a)) :
    Ed K (tLc (iTup K tl) (gName j) tt te vs) σ H (.list ((A.filter p).map f)) := fun H0 e Q q => h H0 e _ fun v H1 e1 hv => by
  obtain ⟨a, xs, rfl, hs, hd⟩ := dp_tup hv
  have hl : xs.length = A.length := by rw [dps_len hd, List.length_map]
  refine ⟨a, rfl, ⟨xs, hs⟩, fun Dl hD => lc_tup (xs := xs) (Cq K H1 A p f Dl) ⟨hD, Ex.new hD, [], upd_same, ?_⟩ (fun i H' _ c => ex_t c.2.1 hs) (fun i x H' hi c => ?_) fun H' c => ?_⟩
  · rw [List.take_zero]
    exact .nil
  · obtain ⟨b, hb, hx⟩ := dpAll_forall enc hd hi
    have hm : b ∈ A := List.mem_of_getElem? hb
    exact ⟨hw x, cq_turn c hb hz hn (ht b hm x H' ((e.trans e1).trans c.2.1) (dp_ex c.2.1 _ _ hx)) fun hp => he b hm hp x H' ((e.trans e1).trans c.2.1) (dp_ex c.2.1 _ _ hx)⟩
  · obtain ⟨c1, c2, acc, c3, c4⟩ := c
    rw [hl, List.take_length] at c4
    exact q _ H' (e1.trans c2) (.lst (sq_of c3) c4)
theorem ed_lcL (h : Ed K tl σ H (.list (A.map enc))) (hw : ∀ x, wipe ((wipe σ vs).set j (some x)) vs = wipe σ vs) (hz : A.length ≤ 40000) (hn : ∀ a ∈ A, noL (f a) = true)
    (ht : ∀ a ∈ A, ∀ v H1, Ex H H1 → Dp K H1 v (enc a) → Evl.EvT tt ((wipe σ vs).set j (some v)) H1 (p a)) (he : ∀ a ∈ A, p a = true → ∀ v H1, Ex H H1 → Dp K H1 v (enc a) → Ed K te ((wipe σ vs).set j (some v)) H1 (f a)) :
    Ed K (tLc (iList K tl) (gName j) tt te vs) σ H (.list ((A.filter p).map f)) := fun H0 e Q q => h H0 e _ fun v H1 e1 hv => by
  obtain ⟨a, xs, rfl, hs, hd⟩ := dp_lst hv
  have hl : xs.length = A.length := by rw [dps_len hd, List.length_map]
  refine ⟨a, rfl, ⟨xs, hs⟩, fun Dl hD => lc_list (xs := xs) (Cq K H1 A p f Dl) ⟨hD, Ex.new hD, [], upd_same, ?_⟩ (fun i H' _ c => ex_l c.2.1 hs) (fun i x H' hi c => ?_) fun H' c => ?_⟩
  · rw [List.take_zero]
    exact .nil
  · obtain ⟨b, hb, hx⟩ := dpAll_forall enc hd hi
    have hm : b ∈ A := List.mem_of_getElem? hb
    exact ⟨hw x, cq_turn c hb hz hn (ht b hm x H' ((e.trans e1).trans c.2.1) (dp_ex c.2.1 _ _ hx)) fun hp => he b hm hp x H' ((e.trans e1).trans c.2.1) (dp_ex c.2.1 _ _ hx)⟩
  · obtain ⟨c1, c2, acc, c3, c4⟩ := c
    rw [hl, List.take_length] at c4
    exact q _ H' (e1.trans c2) (.lst (sq_of c3) c4)
end
theorem ed_lcR {f : Nat → PyData} {p : Nat → Bool} {j : Nat} {vs : List Nat} {n : Nat} {t : TA} (h : EdA K t σ H [.int (n : Nat)]) (hw : ∀ x, wipe ((wipe σ vs).set j (some x)) vs = wipe σ vs) (hz : n ≤ 40000) (hn : ∀ i, i < n → noL (f i) = true)
    (ht : ∀ i, i < n → ∀ H1, Ex H H1 → Evl.EvT tt ((wipe σ vs).set j (some (.int (i : Nat)))) H1 (p i)) (he : ∀ i, i < n → p i = true → ∀ H1, Ex H H1 → Ed K te ((wipe σ vs).set j (some (.int (i : Nat)))) H1 (f i)) :
    Ed K (tLc (iRng1 t) (gName j) tt te vs) σ H (.list (((List.range n).filter p).map f)) := fun H0 e Q q => h H0 e _ fun v H1 e1 hv => by
  obtain ⟨w, rfl, hw'⟩ := dps_1 hv
  have e0 := dp_int hw'
  subst e0
  refine ⟨(n : Nat), rfl, by omega, by omega, fun Dl hD => lc_range (lo := 0) (n := (n : Int).toNat) (Cq K H1 (List.range n) p f Dl) ⟨hD, Ex.new hD, [], upd_same, ?_⟩ (fun i H' hi c => ?_) fun H' c => ?_⟩
  · rw [List.take_zero]
    exact .nil
  · have hi' : i < n := by simpa using hi
    have z : (0 : Int) + (i : Int) = (i : Int) := Int.zero_add _
    show wipe ((wipe σ vs).set j (some (.int ((0 : Int) + (i : Int))))) vs = wipe σ vs ∧ tt ((wipe σ vs).set j (some (.int ((0 : Int) + (i : Int))))) H' _
    rw [z]
    exact ⟨hw _, cq_turn c (List.getElem?_range hi') (by rw [List.length_range]; exact hz) (fun a ha => hn a (List.mem_range.mp ha)) (ht i hi' H' ((e.trans e1).trans c.2.1)) fun hp => he i hi' hp H' ((e.trans e1).trans c.2.1)⟩
  · obtain ⟨c1, c2, acc, c3, c4⟩ := c
    have z : (n : Int).toNat = n := Int.toNat_natCast n
    rw [z, List.take_of_length_le (by rw [List.length_range]; exact Nat.le_refl _)] at c4
    exact q _ H' (e1.trans c2) (.lst (sq_of c3) c4)
end
end K15
namespace K15
open PySem L2 Evl
def top (i : Nat) : Stmt := PySem.Challenge.pw_nomoretold_k15_whole_blurs.main.body.getD i (.Pass ⟨0, 0, 0, 0⟩)
def rowD (r : List Int) : PyData := .tuple (r.map .int)
def tabD (t : List (List Int)) : PyData := .tuple (t.map rowD)
def natD (x : Nat) : PyData := .int (x : Nat)
def natsD (l : List Nat) : PyData := .tuple (l.map natD)
def nlotsD (L : List (List Nat)) : PyData := .tuple (L.map natsD)
theorem noL_row (r : List Int) : noL (rowD r) = true := by
  show noLs (r.map .int) = true
  exact noLs_map fun _ _ => rfl
theorem noL_tab (t : List (List Int)) : noL (tabD t) = true := by
  show noLs (t.map rowD) = true
  exact noLs_map fun _ _ => noL_row _
theorem noL_nats (l : List Nat) : noL (natsD l) = true := by
  show noLs (l.map natD) = true
  exact noLs_map fun _ _ => rfl
theorem noL_nlots (l : List (List Nat)) : noL (nlotsD l) = true := by
  show noLs (l.map natsD) = true
  exact noLs_map fun _ _ => noL_nats _
/-- the built-ins are what they are -/
structure Bi (mg : Str → Option Value) : Prop where
  tuple : mg "tuple" = none
  range : mg "range" = none
  len : mg "len" = none
  isinstance : mg "isinstance" = none
  int : mg "int" = none
  bool : mg "bool" = none
  list : mg "list" = none
  dict : mg "dict" = none
  str : mg "str" = none
  all : mg "all" = none
  any : mg "any" = none
  sorted : mg "sorted" = none
  set : mg "set" = none
  zip : mg "zip" = none
  min : mg "min" = none
  max : mg "max" = none
  enumerate : mg "enumerate" = none
/-- a promise about data: i tells which -/
def spR (K : PySem.W.Frag) {ι : Type} (n : Nat) (pre : ι → Prop) (args : ι → List PyData) (post : ι → PyData → Prop) : Sp := fun vs H Q _ =>
  ∃ i, vs.length = n ∧ pre i ∧ DpAll K H vs (args i) ∧ ∀ d v H', Ex H H' → post i d → Dp K H' v d → Q v H'
def sp1 (K : PySem.W.Frag) {ι : Type} (n : Nat) (pre : ι → Prop) (args : ι → List PyData) (out : ι → PyData) : Sp := fun vs H Q _ =>
  ∃ i, vs.length = n ∧ pre i ∧ DpAll K H vs (args i) ∧ ∀ v H', Ex H H' → Dp K H' v (out i) → Q v H'
section
variable {K : PySem.W.Frag} {σ : L2.St} {H : Hp} {ta tb te tl : TE} {t : TA} {ι : Type} {n : Nat} {pre : ι → Prop} {args : ι → List PyData} {out : ι → PyData} {post : ι → PyData → Prop} {E : XK}
theorem ed_fn (i : ι) (h : EdA K t σ H (args i)) (hp : pre i) (hn : (args i).length = n) : Ed K (tCall (sp1 K n pre args out) [] E t) σ H (out i) :=
  ed_call h fun vs H1 e hv Q q => ⟨i, by rw [List.append_nil, dps_len hv]; exact hn, hp, by rw [List.append_nil]; exact hv, q⟩
/-- .. in a row: what comes back -/
theorem go_fnR (i : ι) (h : EdA K t σ H (args i)) (hp : pre i) (hn : (args i).length = n) {Q : VK} (k : ∀ d v H1, Ex H H1 → post i d → Dp K H1 v d → Q v H1) : tCall (spR K n pre args post) [] E t σ H Q :=
  h H (Ex.refl H) _ fun vs H1 e hv => ⟨i, by rw [List.append_nil, dps_len hv]; exact hn, hp, by rw [List.append_nil]; exact hv, fun d v H2 e2 hd hv2 => k d v H2 (e.trans e2) hd hv2⟩
end
section
variable {K : PySem.W.Frag} {H : Hp} {d1 d2 d3 d4 : PyData}
theorem dps_3 {vs : List V} (h : DpAll K H vs [d1, d2, d3]) : ∃ v w x, vs = [v, w, x] ∧ Dp K H v d1 ∧ Dp K H w d2 ∧ Dp K H x d3 := by
  cases h with
  | cons h1 h2 =>
    obtain ⟨w, x, rfl, h3, h4⟩ := dps_2 h2
    exact ⟨_, _, _, rfl, h1, h3, h4⟩
theorem dps_4 {vs : List V} (h : DpAll K H vs [d1, d2, d3, d4]) : ∃ v w x y, vs = [v, w, x, y] ∧ Dp K H v d1 ∧ Dp K H w d2 ∧ Dp K H x d3 ∧ Dp K H y d4 := by
  cases h with
  | cons h1 h2 =>
    obtain ⟨w, x, y, rfl, h3, h4⟩ := dps_3 h2
    exact ⟨_, _, _, _, rfl, h1, h3, h4⟩
end
section
variable {K : PySem.W.Frag} {σ : L2.St} {H : Hp} {te : St → Hp → (Int → Int → Hp → Prop) → Prop} {ta : TE}
/-- tuple(range(n)) -/
theorem rg_nats (n : Nat) : rgV 0 (n : Nat) = (List.range n).map fun i => V.int (i : Nat) := by
  unfold rgV
  have e : ((n : Int) - 0).toNat = n := by omega
  rw [e]
  (refine List.map_congr_left fun i _ => ?_)
  rw [Int.zero_add]
theorem dps_nats (l : List Nat) : DpAll K H (l.map fun i => V.int (i : Nat)) (l.map natD) := by
  induction l with
  | nil => exact .nil
  | cons a r ih => exact .cons (.int _) ih
theorem ed_tupRg {n : Nat} (h : Ed K ta σ H (.int (n : Nat))) (hz : n ≤ 1000) : Ed K (tTupRg (tRg1 ta)) σ H (natsD (List.range n)) := fun H1 e Q q =>
  h H1 e _ fun v H2 e2 hv => ⟨(n : Nat), dp_int hv, RgOk.of_le (by omega) (by omega) (by omega) (by omega), fun p hp => q _ _ (e2.trans (Ex.new hp)) (.tup (st_of upd_same) (by rw [rg_nats]; exact dps_nats _))⟩
end
theorem atI_map {α β : Type} {f : α → β} {l : List α} {j : Nat} {a : α} (h : l[j]? = some a) : atI (l.map f) (j : Nat) = some (f a) := atI_nat (by rw [List.getElem?_map, h]; rfl)
end K15
namespace K15
open PySem L2 Evl
/-! ### the layer's rules, K said once -/
theorem rK (K : PySem.W.Frag) : K = K := rfl
section
variable {X : Cx} {K : PySem.W.Frag} {e a b tg : Expr} {ta tb te : TE} {pos p : Pos}
theorem kTup (hK : X.K = K) : CallR X (.type "tuple") (rTupS K) := by subst hK; exact call_tuple_of
theorem kLen (hK : X.K = K) : CallR X (.builtin "len") (rLenS K) := by subst hK; exact call_len_seq
theorem kList (hK : X.K = K) : CallR X (.type "list") (rListS K) := by subst hK; exact call_list_of
theorem kIxT (hK : X.K = K) : IxR X (rIxT K) := by subst hK; exact ix_tup
theorem kIxL (hK : X.K = K) : IxR X (rIxL K) := by subst hK; exact ix_list
theorem kPiT (hK : X.K = K) (h : PE X e te) : PI X tg e (iTup K te) := by subst hK; exact pi_tup h
theorem kPiL (hK : X.K = K) (h : PE X e te) : PI X tg e (iList K te) := by subst hK; exact pi_list h
theorem kEqD (hK : X.K = K) (hu : X.A.units + 64 < cLine) : OpR X (compareOp .Eq) (rEqD K) := by subst hK; exact op_eqD hu
theorem kNeD (hK : X.K = K) (hu : X.A.units + 64 < cLine) : OpR X (compareOp .NotEq) (rNeD K) := by subst hK; exact op_neD hu
theorem kCat (hK : X.K = K) : OpR X (binaryOp .Add) (rCatA K) := by subst hK; exact op_catA
theorem kSlT (hK : X.K = K) : SlR X (rSlA K) := by subst hK; exact sl_tupA
theorem kSlL (hK : X.K = K) : SlR X (rSlL K) := by subst hK; exact sl_list
theorem kIn (hK : X.K = K) : OpR X (compareOp .In) (rIn K false) := by subst hK; exact op_in_seq
theorem kNotIn (hK : X.K = K) : OpR X (compareOp .NotIn) (rIn K true) := by subst hK; exact op_notIn_seq
theorem kAll (hK : X.K = K) (hc : X.calm = true) : CallR X (.builtin "all") (rAll K) := by subst hK; exact cr_all hc
theorem kAny (hK : X.K = K) (hc : X.calm = true) : CallR X (.builtin "any") (rAny K) := by subst hK; exact cr_any hc
theorem kSorted (hK : X.K = K) : CallR X (.builtin "sorted") (rSorted K) := by subst hK; exact cr_sorted
theorem kIsi (hK : X.K = K) : CallR X (.builtin "isinstance") (rIsi K) := by subst hK; exact call_isi
theorem kIsiT (hK : X.K = K) : CallR X (.builtin "isinstance") (rIsiT K) := by subst hK; exact call_isiT
theorem kTupT (hK : X.K = K) {es : List Expr} {k : Nat} {t : TGs} {n : Nat} (hc : X.calm = true) (h : PGs X es t)
    (hn : (assignEach es X.env).length = n := by rfl) (hst : (assignEach es X.env).findIdx? (·.1) = none := by rfl) : PG X (.Tuple es k pos) (gTup K n t) := by subst hK; exact pg_tup hc h hn hst
/-- x[i] of tuples, len(x), tuple(x) -/
theorem xT (hK : X.K = K) (ha : PE X a ta) (hb : PE X b tb) (hs : PlainIx b := by exact fun _ _ => rfl) : PE X (.Subscript a b pos) (tOp (rIxT K) ta tb) := pe_ix (kIxT hK) ha hb hs
theorem xL (hK : X.K = K) (ha : PE X a ta) (hb : PE X b tb) (hs : PlainIx b := by exact fun _ _ => rfl) : PE X (.Subscript a b pos) (tOp (rIxL K) ta tb) := pe_ix (kIxL hK) ha hb hs
theorem xLen (hK : X.K = K) (hm : X.mg "len" = none) (h : PE X e te) (hg : Gl X "len" := by rfl) (he : starEach [e] X.env = (false, eval e X.env) :: starEach [] X.env := by rfl) (hpl : (backTo pos (starEach [] X.env)).any (·.1) = false := by rfl)
    (hh : starEach [e] X.env = (false, eval e X.env) :: starEach [] X.env := by rfl) : PE X (.Call (.Name "len" p) [e] [] pos) (tCB (rLenS K) (tCons te tNil)) := pe_callB (kLen hK) hg hm PySem.boot_len (pa_cons h pa_nil he) (by decide) (by decide) he hpl
theorem xTup (hK : X.K = K) (hm : X.mg "tuple" = none) (h : PE X e te) (hg : Gl X "tuple" := by rfl) (he : starEach [e] X.env = (false, eval e X.env) :: starEach [] X.env := by rfl) (hpl : (backTo pos (starEach [] X.env)).any (·.1) = false := by rfl) :
    PE X (.Call (.Name "tuple" p) [e] [] pos) (tCB (rTupS K) (tCons te tNil)) := pe_callTy (kTup hK) hg hm PyProof.Rows.boot_tuple (pa_cons h pa_nil he) (by decide) (by decide) he hpl
theorem xList (hK : X.K = K) (hm : X.mg "list" = none) (h : PE X e te) (hg : Gl X "list" := by rfl) (he : starEach [e] X.env = (false, eval e X.env) :: starEach [] X.env := by rfl) (hpl : (backTo pos (starEach [] X.env)).any (·.1) = false := by rfl) :
    PE X (.Call (.Name "list" p) [e] [] pos) (tCB (rListS K) (tCons te tNil)) := pe_callTy (kList hK) hg hm PyProof.Rows.boot_list (pa_cons h pa_nil he) (by decide) (by decide) he hpl
theorem xAll (hK : X.K = K) (hc : X.calm = true) (hm : X.mg "all" = none) (h : PE X e te) (hg : Gl X "all" := by rfl) (he : starEach [e] X.env = (false, eval e X.env) :: starEach [] X.env := by rfl) (hpl : (backTo pos (starEach [] X.env)).any (·.1) = false := by rfl) :
    PE X (.Call (.Name "all" p) [e] [] pos) (tCB (rAll K) (tCons te tNil)) := pe_callB (kAll hK hc) hg hm PyProof.Rows.boot_all (pa_cons h pa_nil he) (by decide) (by decide) he hpl
theorem xAny (hK : X.K = K) (hc : X.calm = true) (hm : X.mg "any" = none) (h : PE X e te) (hg : Gl X "any" := by rfl) (he : starEach [e] X.env = (false, eval e X.env) :: starEach [] X.env := by rfl) (hpl : (backTo pos (starEach [] X.env)).any (·.1) = false := by rfl) :
    PE X (.Call (.Name "any" p) [e] [] pos) (tCB (rAny K) (tCons te tNil)) := pe_callB (kAny hK hc) hg hm PyProof.Rows.boot_any (pa_cons h pa_nil he) (by decide) (by decide) he hpl
theorem xSorted (hK : X.K = K) (hm : X.mg "sorted" = none) (h : PE X e te) (hg : Gl X "sorted" := by rfl) (he : starEach [e] X.env = (false, eval e X.env) :: starEach [] X.env := by rfl) (hpl : (backTo pos (starEach [] X.env)).any (·.1) = false := by rfl) :
    PE X (.Call (.Name "sorted" p) [e] [] pos) (tCB (rSorted K) (tCons te tNil)) := pe_callB (kSorted hK) hg hm PyProof.Rows.boot_sorted (pa_cons h pa_nil he) (by decide) (by decide) he hpl
/-- isinstance(x, T), T a built-in class -/
theorem xIsi (hK : X.K = K) (hm : X.mg "isinstance" = none) {T : Str} {n : String} {pT : Pos} (hT : X.mg T = none) (hb : bootBuiltins T = some (.type n)) (h : PE X e te) (hg : Gl X "isinstance" := by rfl) (hgT : Gl X T := by rfl) (hn : T ≠ "__name__" := by decide) (hd : (T == ("__debug__" : Str)) = false := by decide)
    (he : starEach [e, .Name T pT] X.env = (false, eval e X.env) :: starEach [.Name T pT] X.env := by rfl) (hpl : (backTo pos (starEach [.Name T pT] X.env)).any (·.1) = false := by rfl) (he2 : starEach [.Name T pT] X.env = (false, eval (.Name T pT) X.env) :: starEach [] X.env := by rfl) :
    PE X (.Call (.Name "isinstance" p) [e, .Name T pT] [] pos) (tCB (rIsi K) (tCons te (tCons (tC (.ty n)) tNil))) :=
  pe_callB (kIsi hK) hg hm PyProof.Rows.boot_isinstance (pa_cons h (pa_cons (pe_bltn hgT hT hb rfl hn hd) pa_nil he2) he) (by decide) (by decide) he hpl
/-- one for, over a tuple, a list, a range -/
theorem xLcT (hK : X.K = K) {elt iter : Expr} {i : Nat} {x : Str} {px : Pos} {ifs : List Expr} {scope : Scope} {own : List (Str × Nat)} {tt : TT} (hN : X.N.Nodup) (hc : X.calm = true) (hi : PE X iter ta) (ok : BlkOk X.N X.env.scope scope own)
    (hg : ∀ (s : Shared) (H : Hp) (C : Addr) (cl : List (Str × Addr)) (fp : List Addr), PG (X.blk s H scope (compEnvC scope cl C X.env) fp) (.Name x px) (gName i)) (ht : ∀ (s : Shared) (H : Hp) (C : Addr) (cl : List (Str × Addr)) (fp : List Addr), PTs (X.blk s H scope (compEnvC scope cl C X.env) fp) ifs tt)
    (he : ∀ (s : Shared) (H : Hp) (C : Addr) (cz : List (Str × Addr)) (fp : List Addr), PE (X.blk s H scope (compEnvC scope cz C X.env) fp) elt te) (hs : ∀ x, foldedSetIterable iter X.env x = pure x := by intro _; rfl) :
    PE X (.ListComp elt [⟨.Name x px, iter, ifs, 0⟩] scope pos) (tLc (iTup K ta) (gName i) tt te (own.map (·.2))) := pe_lc hc hN (kPiT hK hi) ok hg ht he hs
theorem xLcL (hK : X.K = K) {elt iter : Expr} {i : Nat} {x : Str} {px : Pos} {ifs : List Expr} {scope : Scope} {own : List (Str × Nat)} {tt : TT} (hN : X.N.Nodup) (hc : X.calm = true) (hi : PE X iter ta) (ok : BlkOk X.N X.env.scope scope own)
    (hg : ∀ (s : Shared) (H : Hp) (C : Addr) (cl : List (Str × Addr)) (fp : List Addr), PG (X.blk s H scope (compEnvC scope cl C X.env) fp) (.Name x px) (gName i)) (ht : ∀ (s : Shared) (H : Hp) (C : Addr) (cl : List (Str × Addr)) (fp : List Addr), PTs (X.blk s H scope (compEnvC scope cl C X.env) fp) ifs tt)
    (he : ∀ (s : Shared) (H : Hp) (C : Addr) (cz : List (Str × Addr)) (fp : List Addr), PE (X.blk s H scope (compEnvC scope cz C X.env) fp) elt te) (hs : ∀ x, foldedSetIterable iter X.env x = pure x := by intro _; rfl) :
    PE X (.ListComp elt [⟨.Name x px, iter, ifs, 0⟩] scope pos) (tLc (iList K ta) (gName i) tt te (own.map (·.2))) := pe_lc hc hN (kPiL hK hi) ok hg ht he hs
end
section
variable {K : PySem.W.Frag} {σ : L2.St} {H : Hp} {ta tb te : TE} {d : PyData} {ds es : List PyData} {tl th : TO}
theorem ed_cat (ha : Ed K ta σ H (.tuple ds)) (hb : Ed K tb σ H (.tuple es)) (hz : ds.length + es.length ≤ 100000) : Ed K (tOp (rCatA K) ta tb) σ H (.tuple (ds ++ es)) :=
  ed_op ha hb fun x y H1 _ hx hy Q q => by
    obtain ⟨a, vs, rfl, hs, hd⟩ := dp_tup hx
    obtain ⟨b, ws, rfl, hs2, hd2⟩ := dp_tup hy
    refine ⟨a, b, vs, ws, rfl, rfl, hs, hs2, sz_of (by rw [dps_len hd, dps_len hd2]; exact hz), fun h => ?_, fun h1 h2 => ?_, fun h1 h2 p hp => ?_⟩
    · subst h
      cases hd
      exact q _ H1 (Ex.refl H1) (.tup hs2 hd2)
    · subst h2
      cases hd2
      rw [List.append_nil] at q
      exact q _ H1 (Ex.refl H1) (.tup hs hd)
    · exact q _ _ (Ex.new hp) (.tup (st_of upd_same) (dps_ex (Ex.new hp) _ _ (dps_app hd hd2)))
def cutD (ds : List PyData) (lo hi : Option Int) : List PyData := (ds.drop (HT.sIx ds.length 0 lo)).take (HT.sIx ds.length ds.length hi - HT.sIx ds.length 0 lo)
theorem dps_cut {vs : List V} {lo hi : Option Int} (h : DpAll K H vs ds) : DpAll K H (cutV vs lo hi) (cutD ds lo hi) := by
  unfold cutV cutD
  rw [dps_len h]
  exact dps_take _ (dps_drop _ h)
theorem cutD_whole {lo hi : Option Int} (h1 : HT.sIx ds.length 0 lo = 0) (h2 : HT.sIx ds.length ds.length hi = ds.length) : cutD ds lo hi = ds := by
  unfold cutD
  rw [h1, h2, List.drop_zero, Nat.sub_zero, List.take_length]
theorem ed_slT {lo hi : Option Int} (ha : Ed K ta σ H (.tuple ds)) (h1 : Evl.EvO tl σ H lo) (h2 : Evl.EvO th σ H hi) : Ed K (tSl (rSlA K) ta tl th) σ H (.tuple (cutD ds lo hi)) := fun H1 e Q q =>
  ha H1 e _ fun v H2 e2 hv => h1 H2 (e.trans e2) _ fun H3 e3 => h2 H3 ((e.trans e2).trans e3) _ fun H4 e4 => by
    have hv4 := dp_ex (e3.trans e4) _ _ hv
    obtain ⟨a, vs, rfl, hs, hd⟩ := dp_tup hv4
    refine ⟨a, vs, rfl, hs, fun h => ?_, fun h p hp => ?_⟩
    · rw [dps_len hd] at h
      refine q _ H4 ((e2.trans e3).trans e4) ?_
      rw [cutD_whole h.1 h.2]
      exact .tup hs hd
    · exact q _ _ (((e2.trans e3).trans e4).trans (Ex.new hp)) (.tup (st_of upd_same) (dps_ex (Ex.new hp) _ _ (dps_cut hd)))
theorem ed_slL {lo hi : Option Int} (ha : Ed K ta σ H (.list ds)) (h1 : Evl.EvO tl σ H lo) (h2 : Evl.EvO th σ H hi) : Ed K (tSl (rSlL K) ta tl th) σ H (.list (cutD ds lo hi)) := fun H1 e Q q =>
  ha H1 e _ fun v H2 e2 hv => h1 H2 (e.trans e2) _ fun H3 e3 => h2 H3 ((e.trans e2).trans e3) _ fun H4 e4 => by
    have hv4 := dp_ex (e3.trans e4) _ _ hv
    obtain ⟨a, vs, rfl, hs, hd⟩ := dp_lst hv4
    exact ⟨a, vs, rfl, hs, fun p hp => q _ _ (((e2.trans e3).trans e4).trans (Ex.new hp)) (.lst (sq_of upd_same) (dps_ex (Ex.new hp) _ _ (dps_cut hd)))⟩
theorem cutD_to {n : Nat} (h : n ≤ ds.length) : cutD ds none (some (n : Int)) = ds.take n := by
  unfold cutD
  rw [HT.sIx_none, HT.sIx_nat, List.drop_zero, Nat.sub_zero, Nat.min_eq_left h]
theorem cutD_from (n : Nat) : cutD ds (some (n : Int)) none = ds.drop n := by
  unfold cutD
  rw [HT.sIx_none, HT.sIx_nat]
  by_cases h : n ≤ ds.length
  · rw [Nat.min_eq_left h]
    exact List.take_of_length_le (by rw [List.length_drop]; exact Nat.le_refl _)
  · rw [Nat.min_eq_right (by omega), List.drop_of_length_le (Nat.le_refl _), List.drop_of_length_le (by omega), List.take_nil]
/-- sorted(list of ints): what is known of it -/
theorem go_sorted {ns : List Int} (h : Ed K ta σ H (.list (ns.map .int))) (hz : ns.length < 64) {Q : VK} (k : ∀ (ms : List Int) v H1, Ex H H1 → ms.Perm ns → ms.Pairwise (· ≤ ·) → Dp K H1 v (.list (ms.map .int)) → Q v H1) : tCB (rSorted K) (tCons ta tNil) σ H Q :=
  h H (Ex.refl H) _ fun v H1 e hv => by
    obtain ⟨a, xs, rfl, hs, hd⟩ := dp_lst hv
    rw [dps_ints hd] at hs
    exact ⟨a, ns, rfl, hs, hz, fun ms p hp hs' hn => k ms _ _ (e.trans (Ex.new hn)) hp hs' (.lst (sq_of upd_same) (dps_of_ints _))⟩
/-- .. where the order tells it -/
theorem ed_sorted {ns ms : List Int} (h : Ed K ta σ H (.list (ns.map .int))) (hz : ns.length < 64) (hp : ∀ xs : List Int, xs.Perm ns → xs.Pairwise (· ≤ ·) → xs = ms) : Ed K (tCB (rSorted K) (tCons ta tNil)) σ H (.list (ms.map .int)) := fun H1 e Q q =>
  go_sorted (h.mono e) hz fun xs v H2 e2 p1 p2 hv => by
    rw [hp xs p1 p2] at hv
    exact q v H2 e2 hv
/-- isinstance -/
def tyD : PyData → Option String
  | .none => some "NoneType"
  | .bool _ => some "bool"
  | .int _ => some "int"
  | .tuple _ => some "tuple"
  | .list _ => some "list"
  | _ => none
theorem dp_ty {v : V} {T : String} (h : Dp K H v d) (ht : tyD d = some T) : TyX K H v (.type T) := by
  cases h with
  | non => cases ht; exact .base .non
  | bl b => cases ht; exact .base (.bl b)
  | int i => cases ht; exact .base (.int i)
  | str x => cases ht
  | lst hs _ =>
    cases ht
    rcases hs with (hs | ⟨o, hs⟩) | ⟨o, its, n, h1, h2, _⟩
    · exact .base (.lst hs)
    · exact .base (.frz hs)
    · exact .kList h1 h2
  | tup hs _ =>
    cases ht
    rcases hs with (hs | ⟨o, hs⟩) | ⟨o, its, n, h1, h2, _⟩
    · exact .base (.tup hs)
    · exact .fTuple hs
    · exact .kTuple h1 h2
theorem ed_isi {T n : String} {r : Bool} (h : Ed K ta σ H d) (ht : tyD d = some T) (hr : kitB T n = some r) : Ed K (tCB (rIsi K) (tCons ta (tCons (tC (.ty n)) tNil))) σ H (.bool r) := fun H1 e Q q =>
  h H1 e _ fun v H2 e2 hv => ⟨v, .ty n, .type T, .type n, r, rfl, .ty n, dp_ty hv ht, kit_ty hr, q _ H2 e2 (.bl r)⟩
end
end K15
namespace K15
open PySem L2 Evl
/-- the module's numbers -/
structure Co (mg : Str → Option Value) : Prop where
  MOST_THINGS : ∃ t, mg "MOST_THINGS" = some (.int 6 t)
  MOST_ANSWER : ∃ t, mg "MOST_ANSWER" = some (.int 99 t)
  MOST_UNLIKE : ∃ t, mg "MOST_UNLIKE" = some (.int 8 t)
/-- a def that keeps a promise, called by its name -/
def Fn (P : Program) (w : World) (K : PySem.W.Frag) (mg : Str → Option Value) (base : Heap) (k : Nat) (x : Str) (ps : List Str) (sp : Sp) : Prop :=
  ∃ f fd, FnOk P w K mg base CX0 k f fd ps sp ∧ mg x = some (.ref f) ∧ PySem.W.keepIn K (.ref f) = true ∧ Binds K fd ps []
theorem Fn.mono {P : Program} {w : World} {K : PySem.W.Frag} {mg : Str → Option Value} {base : Heap} {j k : Nat} {x : Str} {ps : List Str} {sp : Sp} (h : Fn P w K mg base j x ps sp) (hk : j ≤ k) : Fn P w K mg base k x ps sp := by
  obtain ⟨f, fd, h1, h2⟩ := h
  exact ⟨f, fd, h1.mono hk, h2⟩
abbrev rLtI : R2 := rI0 fun i j => .bl (decide (i < j))
abbrev rLeI : R2 := rI0 fun i j => .bl (decide (i ≤ j))
abbrev rGtI : R2 := rI0 fun i j => .bl (decide (j < i))
abbrev rGeI : R2 := rI0 fun i j => .bl (decide (j ≤ i))
abbrev rAddI : R2 := rI0 fun i j => .int (i + j)
abbrev rSubI : R2 := rI0 fun i j => .int (i - j)
abbrev rMulI : R2 := rI CMul fun i j => .int (i * j)
abbrev rFdivI : R2 := rI CDiv fun i j => .int (i / j)
abbrev rModI : R2 := rI (fun _ j => 0 < j) fun i j => .int (i % j)
abbrev rPowI : R2 := rI CPow fun i j => .int (i ^ j.toNat)
def rIsNn : R2 := fun x y H Q => y = .non ∧ Q (.bl (decide (x = .non))) H
def rNotNn : R2 := fun x y H Q => y = .non ∧ Q (.bl (!decide (x = .non))) H
def rInt1 : List V → Hp → VK → Prop := fun xs H Q => (∃ i, xs = [.int i] ∧ Q (.int i) H) ∨ ∃ k, xs = [.bl k] ∧ Q (.int (if k then 1 else 0)) H
def rMin2 : List V → Hp → VK → Prop := fun xs H Q => ∃ i j, xs = [.int i, .int j] ∧ Q (.int (if j < i then j else i)) H
section
variable {X : Cx} {K : PySem.W.Frag} {e a b tg : Expr} {es : List Expr} {ta tb te : TE} {t : TA} {pos p : Pos}
theorem xConst {x : Str} {n : Int} (h : ∃ t, X.mg x = some (.int n t)) (hg : Gl X x := by rfl) (hd : (x == ("__debug__" : Str)) = false := by decide) : PE X (.Name x p) (tC (.int n)) := by
  obtain ⟨t, h⟩ := h
  exact pe_glob hg h ⟨t, rfl⟩ hd
theorem xCall {k : Nat} {x : Str} {ps : List Str} {sp : Sp} (G : Fn X.prog X.w X.K X.mg X.base k x ps sp) (hr : Room k X.A) (ha : PA X (e :: es) t) (hg : Gl X x := by rfl) (hn : x ≠ "__name__" := by decide) (hd : (x == ("__debug__" : Str)) = false := by decide)
    (he : starEach (e :: es) X.env = (false, eval e X.env) :: starEach es X.env := by rfl) (hpl : (backTo pos (starEach es X.env)).any (·.1) = false := by rfl) : PE X (.Call (.Name x p) (e :: es) [] pos) (tCall sp [] E0 t) := by
  obtain ⟨f, fd, F, hm, hk, hb⟩ := G
  exact pe_call F hr hg hm hk hb .nil pass0 ha (hdb := hd) (he := he) (hpl := hpl)
theorem xInt (hm : X.mg "int" = none) (h : PE X e te) (hg : Gl X "int" := by rfl) (he : starEach [e] X.env = (false, eval e X.env) :: starEach [] X.env := by rfl) (hpl : (backTo pos (starEach [] X.env)).any (·.1) = false := by rfl) :
    PE X (.Call (.Name "int" p) [e] [] pos) (tCB rInt1 (tCons te tNil)) := pe_callTy call_int1 hg hm PyProof.Rows.boot_int (pa_cons h pa_nil he) (by decide) (by decide) he hpl
theorem xMin2 (hc : X.calm = true) (hm : X.mg "min" = none) (h : PA X (e :: es) t) (hg : Gl X "min" := by rfl) (he : starEach (e :: es) X.env = (false, eval e X.env) :: starEach es X.env := by rfl) (hpl : (backTo pos (starEach es X.env)).any (·.1) = false := by rfl) :
    PE X (.Call (.Name "min" p) (e :: es) [] pos) (tCB rMin2 t) := pe_callB (call_min2 hc) hg hm PyProof.Rows.boot_min h (by decide) (by decide) he hpl
theorem xMax2 (hc : X.calm = true) (hm : X.mg "max" = none) (h : PA X (e :: es) t) (hg : Gl X "max" := by rfl) (he : starEach (e :: es) X.env = (false, eval e X.env) :: starEach es X.env := by rfl) (hpl : (backTo pos (starEach es X.env)).any (·.1) = false := by rfl) :
    PE X (.Call (.Name "max" p) (e :: es) [] pos) (tCB rMax2 t) := pe_callB (call_max2 hc) hg hm PyProof.Rows.boot_max h (by decide) (by decide) he hpl
theorem kIx (hK : X.K = K) : IxR X (rIx K) := by subst hK; exact ix_seq
theorem kZip (hK : X.K = K) {e2 : Expr} {tpos : Pos} {elts : List Expr} {kk : Nat} (hg : Gl X "zip") (hm : X.mg "zip" = none) (ha : PA X [e, e2] t)
    (hpl : (backTo pos (starEach [e2] X.env)).any (·.1) = false := by rfl) (hs : starEach [e, e2] X.env = (false, eval e X.env) :: starEach [e2] X.env := by rfl) :
    PI X (.Tuple elts kk tpos) (.Call (.Name "zip" p) [e, e2] [] pos) (RZ.iZipA K t) := by subst hK; exact RZ.pi_zipA hg hm ha hs hpl
/-- xs.append(e) -/
theorem kAppend (hK : X.K = K) {apos : Pos} (h : PE X a ta) (ha : PA X (e :: es) t)
    (hbase : attributeBase a "append" X.env (eval a X.env) = eval a X.env := by rfl)
    (hfew : ((backTo pos (starEach (e :: es) X.env)).all (fun x => !x.1) && (backToKw pos (keywordEach [] X.env)).all (fun x => x.1.isSome) && decide ((e :: es).length + ([] : List Keyword).length + (if ([] : List Keyword).isEmpty then 0 else 1) < 30)) = true := by rfl)
    (hline : (apos.endLine == pos.line) = true := by rfl) (hs : starEach (e :: es) X.env = (false, eval e X.env) :: starEach es X.env := by rfl) (hplain : (backTo pos (starEach es X.env)).any (·.1) = false := by rfl) :
    PE X (.Call (.Attribute a "append" apos) (e :: es) [] pos) (tBM K "list" rAppend ta t) := by
  subst hK
  exact pe_bm PySem.F.plainAttrs_list PySem.F.slot_list_append PySem.F.type_list_append mt_append h ha hbase hfew hline hs hplain
/-- isinstance(x, (tuple, list)) -/
theorem xIsiTL (hK : X.K = K) (hm : X.mg "isinstance" = none) (h1 : X.mg "tuple" = none) (h2 : X.mg "list" = none) {p1 p2 p3 : Pos} {kk : Nat} (h : PE X e te) (hg : Gl X "isinstance" := by rfl) (hg1 : Gl X "tuple" := by rfl) (hg2 : Gl X "list" := by rfl)
    (he : starEach [e, .Tuple [.Name "tuple" p1, .Name "list" p2] kk p3] X.env = (false, eval e X.env) :: starEach [.Tuple [.Name "tuple" p1, .Name "list" p2] kk p3] X.env := by rfl)
    (hpl : (backTo pos (starEach [.Tuple [.Name "tuple" p1, .Name "list" p2] kk p3] X.env)).any (·.1) = false := by rfl)
    (he2 : starEach [.Tuple [.Name "tuple" p1, .Name "list" p2] kk p3] X.env = (false, eval (.Tuple [.Name "tuple" p1, .Name "list" p2] kk p3) X.env) :: starEach [] X.env := by rfl) :
    PE X (.Call (.Name "isinstance" p) [e, .Tuple [.Name "tuple" p1, .Name "list" p2] kk p3] [] pos) (tCB (rIsiT K) (tCons te (tCons (tTup (tCons (tC (.ty "tuple")) (tCons (tC (.ty "list")) tNil))) tNil))) :=
  pe_callB (kIsiT hK) hg hm PyProof.Rows.boot_isinstance (pa_cons h (pa_cons (pe_tup (pa_cons (pe_bltn hg1 h1 PyProof.Rows.boot_tuple rfl) (pa_cons (pe_bltn hg2 h2 PyProof.Rows.boot_list rfl) pa_nil))) pa_nil he2) he) (by decide) (by decide) he hpl
end
section
variable {K : PySem.W.Frag} {σ : L2.St} {H : Hp} {ta tb te : TE} {d : PyData} {ds : List PyData}
theorem ed_min2 {i j : Int} (ha : Ed K ta σ H (.int i)) (hb : Ed K tb σ H (.int j)) : Ed K (tCB rMin2 (tCons ta (tCons tb tNil))) σ H (.int (min i j)) := ed_cb (ea2 ha hb) fun vs H1 _ hv Q q => by
  obtain ⟨v, w, rfl, h1, h2⟩ := dps_2 hv
  rw [dp_int h1, dp_int h2]
  refine ⟨i, j, rfl, ?_⟩
  have e : (if j < i then j else i) = min i j := by
    rw [Int.min_def]
    split <;> split <;> omega
  rw [e]
  exact q _ H1 (Ex.refl H1) (.int _)
theorem ed_max2 {i j : Int} (ha : Ed K ta σ H (.int i)) (hb : Ed K tb σ H (.int j)) : Ed K (tCB rMax2 (tCons ta (tCons tb tNil))) σ H (.int (max i j)) := ed_cb (ea2 ha hb) fun vs H1 _ hv Q q => by
  obtain ⟨v, w, rfl, h1, h2⟩ := dps_2 hv
  rw [dp_int h1, dp_int h2]
  refine ⟨i, j, rfl, ?_⟩
  have e : (if j > i then j else i) = max i j := by
    rw [Int.max_def]
    split <;> split <;> omega
  rw [e]
  exact q _ H1 (Ex.refl H1) (.int _)
theorem ed_int1 {i : Int} (ha : Ed K ta σ H (.int i)) : Ed K (tCB rInt1 (tCons ta tNil)) σ H (.int i) := ed_cb (ea1 ha) fun vs H1 _ hv Q q => by
  obtain ⟨v, rfl, h1⟩ := dps_1 hv
  rw [dp_int h1]
  exact .inl ⟨i, rfl, q _ H1 (Ex.refl H1) (.int _)⟩
theorem ed_isiTL {T : String} {r : Bool} (h : Ed K ta σ H d) (ht : tyD d = some T) (hr : PySem.W.kitAny K (.type T) [.type "tuple", .type "list"] = some r) :
    Ed K (tCB (rIsiT K) (tCons ta (tCons (tTup (tCons (tC (.ty "tuple")) (tCons (tC (.ty "list")) tNil))) tNil))) σ H (.bool r) := fun H1 e Q q =>
  h H1 e _ fun v H2 e2 hv => ⟨sz_of (Nat.le_of_ble_eq_true rfl), fun p hp => ⟨v, p, [.ty "tuple", .ty "list"], .type T, [.type "tuple", .type "list"], r, rfl, upd_same, .cons (.ty "tuple") (.cons (.ty "list") .nil), dp_ty (dp_ex (Ex.new hp) _ _ hv) ht, hr, q _ _ (e2.trans (Ex.new hp)) (.bl r)⟩⟩
/-- d[k] of a dict of ints -/
theorem ed_dget {a : Addr} {kvs : List (Key × V)} {n : Int} {v : V} (ha : Evl.Ev ta σ H (.ref a)) (hH : H a = some (.dK kvs)) (hb : Ed K tb σ H (.int n)) (hv : valV kvs (.inl n) = some v) (hd : ∀ H1, Ex H H1 → Dp K H1 v d) : Ed K (tDGet ta tb) σ H d := fun H1 e Q q =>
  ha H1 e _ fun H2 e2 => hb H2 (e.trans e2) _ fun y H3 e3 hy => by
    rw [dp_int hy]
    refine ⟨a, v, rfl, ?_, q v H3 (e2.trans e3) (hd H3 ((e.trans e2).trans e3))⟩
    rw [← hv]
    exact DGet.k (k := .inl n) (((e.trans e2).trans e3) a _ hH)
/-- an Ed, where a list comes that is known -/
theorem kit_none {T : String} : True := trivial
end
end K15
namespace K15
open PySem PySem.Spec L2 PyProof.Rows
/-! ### {k: v for a in xs for b in ys}: two clauses, no tests -/
abbrev dcE (kx vx t0 i0 t1 i1 : Expr) (sc : Scope) (ps : Pos) : Expr := .DictComp kx vx [⟨t0, i0, [], 0⟩, ⟨t1, i1, [], 0⟩] sc ps
theorem dturn_out (kx vx t0 i0 t1 i1 : Expr) (sc : Scope) (ps : Pos) (it : Value) (D : Addr) (en : Env) :
    compTurn (dcE kx vx t0 i0 t1 i1 sc ps) 0 it (.ref D) en = (do
      standAt i0.pos
      match ← pyNext it with
      | none => pure (.done .next)
      | some v =>
        letOwnedTupleGo t0 it v
        assign t0 en v
        let mut go := true
        for c in ([] : List Expr) do
          if go then go ← isTrue c en (eval c en)
        if go then
          let y ← eval i1 en
          standAt i1.pos
          let y ← foldedSetIterable i1 en y
          let _ ← runOwn (.compStart (dcE kx vx t0 i0 t1 i1 sc ps) 1 (← holding [y] (pyIter y)) (.ref D) en) en
        again (.compLoop (dcE kx vx t0 i0 t1 i1 sc ps) 0 it (.ref D) en)) := by rfl
theorem dturn_in (kx vx t0 i0 t1 i1 : Expr) (sc : Scope) (ps : Pos) (it : Value) (D : Addr) (en : Env) :
    compTurn (dcE kx vx t0 i0 t1 i1 sc ps) 1 it (.ref D) en = (do
      standAt i1.pos
      match ← pyNext it with
      | none => pure (.done .next)
      | some v =>
        letOwnedTupleGo t1 it v
        assign t1 en v
        let mut go := true
        for c in ([] : List Expr) do
          if go then go ← isTrue c en (eval c en)
        if go then
          (do let kv ← eval kx en
              let vv ← holding [kv] (eval vx en)
              standAt { kx.pos with endLine := vx.pos.endLine, endCol := vx.pos.endCol }; holding [kv, vv] (dictSet D kv vv))
        again (.compLoop (dcE kx vx t0 i0 t1 i1 sc ps) 1 it (.ref D) en)) := by rfl

section
variable {prog : Program} {w : World} {A : Around} {Z : Result → Shared → Prop} {s : Shared} {kx vx t0 i0 t1 i1 : Expr} {sc : Scope} {ps : Pos} {it : Value} {D : Addr} {en : Env}
/-- what the block notes of a raise -/
abbrev nt (prog : Program) (w : World) (A : Around) (en : Env) (Z : Result → Shared → Prop) : Value → Shared → Prop := notedBy (model prog w) A en fun x s' => Z (.error x) s'
/-- no tests -/
abbrev noTests (en : Env) : Sem Bool := forIn ([] : List Expr) true fun c r => if r = true then do let ok ← isTrue c en (eval c en); pure (ForInStep.yield ok) else pure (ForInStep.yield r)
theorem dloop_out (hs : ∀ x, foldedSetIterable i1 en x = pure x) (J : Nat → Shared → Prop)
    (round : ∀ n s, J n s → wpAny (model prog w) A (pyNext it) (fun r sh1 => match r with
      | none => Z (.ok .next) sh1
      | some v => wpAny (model prog w) A (letOwnedTupleGo t0 it v) (fun _ sh2 => wpAny (model prog w) A (assign t0 en v) (fun _ sh3 => wpAny (model prog w) A (noTests en) (fun ok sh4 =>
            if ok = true then wpAny (model prog w) A (eval i1 en) (fun x sh5 => wpAny (model prog w) A (pyIter x) (fun jt sh6 =>
              codeAny (model prog w) A (.compStart (dcE kx vx t0 i0 t1 i1 sc ps) 1 jt (.ref D) en) (fun r s' => match r with
                | .ok _ => ∃ m, m < n ∧ J m s'
                | .error _ => False) sh6) (nt prog w A en Z) sh5) (nt prog w A en Z) sh4
            else ∃ m, m < n ∧ J m sh4) (nt prog w A en Z) sh3) (nt prog w A en Z) sh2) (nt prog w A en Z) sh1) (nt prog w A en Z) s)
    (n : Nat) (h : J n s) : codeAny (model prog w) A (.compLoop (dcE kx vx t0 i0 t1 i1 sc ps) 0 it (.ref D) en) Z s := by
  refine codeAny_loop rfl J (fun n' s' hJ => ?_) n h
  show wpAny _ A ((compTurn (dcE kx vx t0 i0 t1 i1 sc ps) 0 it (.ref D) en).onRaise (fun x => do noteFrame x en; theTreesLotGoes x)) _ _ s'
  refine wpAny_noted ?_
  rw [dturn_out]
  refine wpAny_bind (wpAny_standAt (wpAny_bind (wpAny_mono (round n' s' hJ) (fun r sh1 ko1 => ?_) fun _ _ z => z)))
  cases r with
  | none => exact wpAny_pure ko1
  | some v =>
    refine wpAny_bind (wpAny_mono ko1 (fun _ sh2 ko2 => ?_) fun _ _ z => z)
    refine wpAny_bind (wpAny_mono ko2 (fun _ sh3 ko3 => wpAny_bind (wpAny_mono ko3 (fun ok sh4 ko4 => ?_) fun _ _ z => z)) fun _ _ z => z)
    cases ok with
    | false => exact wpAny_pure ⟨rfl, ko4⟩
    | true =>
      refine wpAny_bind (wpAny_mono ko4 (fun x sh5 ko5 => ?_) fun _ _ z => z)
      refine wpAny_bind (wpAny_standAt (wpAny_bind (wpAny_of_eq (hs x) (wpAny_bind (wpAny_holding (wpAny_mono ko5 (fun jt sh6 ko6 => ?_) fun _ _ z => z))))))
      (refine wpAny_bind (wpAny_runOwn ?_))
      rw [Around.mark_none]
      refine codeAny_mono ko6 fun r sh7 ko7 => ?_
      cases r with
      | error e => exact ko7.elim
      | ok f =>
        first
          | exact wpAny_pure ⟨rfl, ko7⟩
          | exact wpAny_bind (wpAny_pure (wpAny_pure ⟨rfl, ko7⟩))
theorem dloop_in (J : Nat → Shared → Prop)
    (round : ∀ n s, J n s → wpAny (model prog w) A (pyNext it) (fun r sh1 => match r with
      | none => Z (.ok .next) sh1
      | some v => wpAny (model prog w) A (letOwnedTupleGo t1 it v) (fun _ sh2 => wpAny (model prog w) A (assign t1 en v) (fun _ sh3 => wpAny (model prog w) A (noTests en) (fun ok sh4 =>
            if ok = true then wpAny (model prog w) A (eval kx en) (fun kv sh5 => wpAny (model prog w) A (eval vx en) (fun vv sh6 =>
              wpAny (model prog w) A (dictSet D kv vv) (fun _ sh7 => ∃ m, m < n ∧ J m sh7) (nt prog w A en Z) sh6) (nt prog w A en Z) sh5) (nt prog w A en Z) sh4
            else ∃ m, m < n ∧ J m sh4) (nt prog w A en Z) sh3) (nt prog w A en Z) sh2) (nt prog w A en Z) sh1) (nt prog w A en Z) s)
    (n : Nat) (h : J n s) : codeAny (model prog w) A (.compLoop (dcE kx vx t0 i0 t1 i1 sc ps) 1 it (.ref D) en) Z s := by
  refine codeAny_loop rfl J (fun n' s' hJ => ?_) n h
  show wpAny _ A ((compTurn (dcE kx vx t0 i0 t1 i1 sc ps) 1 it (.ref D) en).onRaise (fun x => do noteFrame x en; theTreesLotGoes x)) _ _ s'
  refine wpAny_noted ?_
  rw [dturn_in]
  refine wpAny_bind (wpAny_standAt (wpAny_bind (wpAny_mono (round n' s' hJ) (fun r sh1 ko1 => ?_) fun _ _ z => z)))
  cases r with
  | none => exact wpAny_pure ko1
  | some v =>
    refine wpAny_bind (wpAny_mono ko1 (fun _ sh2 ko2 => ?_) fun _ _ z => z)
    refine wpAny_bind (wpAny_mono ko2 (fun _ sh3 ko3 => wpAny_bind (wpAny_mono ko3 (fun ok sh4 ko4 => ?_) fun _ _ z => z)) fun _ _ z => z)
    cases ok with
    | false => exact wpAny_pure ⟨rfl, ko4⟩
    | true =>
      exact wpAny_bind (wpAny_bind (wpAny_mono ko4 (fun kv sh5 ko5 => wpAny_bind (wpAny_holding (wpAny_mono ko5 (fun vv sh6 ko6 => wpAny_bind (wpAny_standAt (wpAny_holding (wpAny_mono ko6 (fun _ sh7 ko7 => wpAny_pure ⟨rfl, ko7⟩) fun _ _ z => z)))) fun _ _ z => z))) fun _ _ z => z))
theorem dstart_in (g0 : codeAny (model prog w) A (.compLoop (dcE kx vx t0 i0 t1 i1 sc ps) 1 it (.ref D) en) Z s)
    (h : wpAny (model prog w) A (pyIter it) (fun jt s' => codeAny (model prog w) A (.compLoop (dcE kx vx t0 i0 t1 i1 sc ps) 1 jt (.ref D) en) Z s') (nt prog w A en Z) s) :
    codeAny (model prog w) A (.compStart (dcE kx vx t0 i0 t1 i1 sc ps) 1 it (.ref D) en) Z s := by
  refine codeAny_of_tree ?_
  show wpAny _ _ ((compStart (dcE kx vx t0 i0 t1 i1 sc ps) 1 it (.ref D) en).onRaise (fun x => do noteFrame x en; standAt theWindowsPlace)) _ _ s
  refine wpAny_notedAt ?_
  unfold compStart
  (show wpAny _ _ (ask >>= _) _ _ s)
  (refine wpAny_bind (wpAny_askSetting (wpAny_ite ?_)))
  split
  · first
      | exact wpAny_bind (wpAny_pure (wpAny_pure (And.intro rfl g0)))
      | exact wpAny_pure (And.intro rfl g0)
  · first
      | exact wpAny_bind (wpAny_rule (wpAny_bind (wpAny_standAt (wpAny_bind (wpAny_mono h (fun jt s' k => wpAny_pure (And.intro rfl k)) fun _ _ x => x)))))
      | (refine wpAny_bind (wpAny_rule ?_); show wpAny _ _ (standAt i1.pos >>= _) _ _ s; exact wpAny_bind (wpAny_standAt (wpAny_bind (wpAny_mono h (fun jt s' k => wpAny_pure (And.intro rfl k)) fun _ _ x => x))))
end
end K15
namespace K15
open PySem PySem.Spec L2 PyProof.Rows
section
variable {X : Cx}
/-- what a dict comprehension of two clauses asks -/
def tDc2 (wi : TI) (g : TG) (wi1 : TI) (g1 : TG) (tk tv : TE) (vs vs1 : List Nat) : TE := fun σ H Q => wi σ H fun J hy1 => ∀ D, hy1 D = none → ∃ W : Nat → Nat → Hp → Prop, (∃ m, W 0 m (upd hy1 D (.dK []))) ∧ ∀ i m H, W i m H →
  (J.stop i H ∧ Q (.ref D) H) ∨ (J.go i H ∧ ∃ Nx : Hp → Prop, (∀ H', Nx H' → ∃ mm, mm < m ∧ W (i + 1) mm H') ∧ ∀ x H', J.yld i H x H' → g x (wipe σ vs) H' fun σ2 hy2 => wipe σ2 vs = wipe σ vs ∧
    wi1 σ2 hy2 fun J1 hy4 => ∃ W1 : Nat → Nat → Hp → Prop, (∃ m, W1 0 m hy4) ∧ ∀ j k H, W1 j k H →
      (J1.stop j H ∧ Nx H) ∨ (J1.go j H ∧ ∃ Nx1 : Hp → Prop, (∀ H', Nx1 H' → ∃ k', k' < k ∧ W1 (j + 1) k' H') ∧ ∀ x H', J1.yld j H x H' → g1 x (wipe σ2 vs1) H' fun σ3 hy5 => wipe σ3 vs1 = wipe σ2 vs1 ∧
        tk σ3 hy5 fun y hy6 => tv σ3 hy6 fun z hy7 => ∃ kvs key, y = kV key ∧ hy7 D = some (.dK kvs) ∧ kvs.length < sizeLine ∧ Nx1 (upd hy7 D (.dK (putK kvs key z)))))
abbrev InB (X : Cx) (sc : Scope) (R : Cx → Prop) : Prop := ∀ (s : Shared) (H : Hp) (C : Addr) (cl : List (Str × Addr)) (fp : List Addr), R (X.blk s H sc (compEnvC sc cl C X.env) fp)
theorem pe_dc2 {kx vx t0 i0 t1 i1 : Expr} {sc : Scope} {own : List (Str × Nat)} {vs1 : List Nat} {ps : Pos} {wi wi1 : TI} {g g1 : TG} {tk tv : TE} (hc : X.calm = true) (hN : X.N.Nodup) (hi : PI X t0 i0 wi) (ok : BlkOk X.N X.env.scope sc own) (hv : ∀ i ∈ vs1, i ∈ own.map (·.2))
    (hg : InB X sc fun Y => PG Y t0 g) (hi1 : InB X sc fun Y => PI Y t1 i1 wi1) (hg1 : InB X sc fun Y => PG Y t1 g1) (hk : InB X sc fun Y => PE Y kx tk) (he : InB X sc fun Y => PE Y vx tv)
    (hs : ∀ x, foldedSetIterable i0 X.env x = pure x := by intro _; rfl) (hs1 : ∀ en x, foldedSetIterable i1 en x = pure x := by intro _ _; rfl) :
    PE X (dcE kx vx t0 i0 t1 i1 sc ps) (tDc2 wi g wi1 g1 tk tv (own.map (·.2)) vs1) := by
  (refine ⟨fun pins s σ H Q I hw => ?_⟩)
  show wpAny (model X.prog X.w) X.A (eval (.DictComp kx vx [⟨t0, i0, [], 0⟩, ⟨t1, i1, [], 0⟩] sc ps) X.env) _ _ _
  rw [arm_eval_DictComp]
  have free : ∀ y ∈ sc.names, y.2 = .free → ∃ c, X.env.cells.lookup y.1 = some c := fun y hy q => (ok.free y hy q).elim (fun k => I.ok.has _ (.inl k)) fun k => I.ok.has _ (.inr k)
  refine wpAny_comprehension_free (use := none) rfl hs (closure_ok free) ok.kind (fun y hy q => by rw [ok.uniq y hy, q])
    (thn (hi.run pins s σ H _ I hw) fun xv sh1 hx => thn hx fun itr sh2 ko2 => ?_)
  obtain ⟨it, fp, tn, J, hy2, eIt, iv2, T, sn2, fo2, q⟩ := ko2
  subst eIt
  (refine wpAny_newObj_type (newEnv_comp ?_))
  generalize atD : sh2.heap.objs.size = D
  have newD : hy2 D = none := iv2.hok.fresh (Nat.le_of_eq atD)
  obtain ⟨W, ⟨me0, wo0⟩, step0⟩ := q D newD
  -- the new dict
  generalize def3 : ({ sh2 with heap := sh2.heap.push { cls := .type "dict", data := .dict #[] } } : Shared) = sh3
  have iv3 : Inv X pins σ (upd hy2 D (.dK [])) sh3 := by
    subst def3
    refine iv2.laid (t' := sh2.toks) (fun b o z => Heap.get?_push_of_some _ z) (Nat.le_of_eq atD) ?_
    subst atD
    exact dk_empty sh2.heap iv2.big
  have heap3 : sh3.heap = sh2.heap.push { cls := .type "dict", data := .dict #[] } := by subst def3; rfl
  have young : ∀ b ∈ fp, b < sh2.heap.objs.size := fun b hb => (T.obj _ _ sn2 b hb).elim fun o z => Heap.lt_size z.1
  have fo3 : ∀ b ∈ fp, FpOk X pins (upd hy2 D (.dK [])) b ∧ b < sh3.heap.objs.size := fun b hb => by
    have lt := young b hb
    refine ⟨⟨?_, (fo2 b hb).2⟩, ?_⟩
    · rw [upd_ne (show b ≠ D from fun z => by subst atD; exact absurd (z ▸ lt) (Nat.lt_irrefl _))]
      exact (fo2 b hb).1
    · rw [heap3, Heap.size_push]
      exact Nat.lt_succ_of_lt lt
  have sn3 : tn 0 sh3.heap := T.keep _ _ _ sn2 fun b _ o z => by rw [heap3]; exact Heap.get?_push_of_some _ z
  have iv4 := block_start iv3 ok hN fo3
  have pg := hg sh3 (upd hy2 D (.dK [])) sh3.heap.objs.size (cellsFrom (sh3.heap.objs.size + 1) sc.names (cloFrom X.env.cells sc.names [])) fp
  have pi1 := hi1 sh3 (upd hy2 D (.dK [])) sh3.heap.objs.size (cellsFrom (sh3.heap.objs.size + 1) sc.names (cloFrom X.env.cells sc.names [])) fp
  have pg1 := hg1 sh3 (upd hy2 D (.dK [])) sh3.heap.objs.size (cellsFrom (sh3.heap.objs.size + 1) sc.names (cloFrom X.env.cells sc.names [])) fp
  have pk := hk sh3 (upd hy2 D (.dK [])) sh3.heap.objs.size (cellsFrom (sh3.heap.objs.size + 1) sc.names (cloFrom X.env.cells sc.names [])) fp
  have pe := he sh3 (upd hy2 D (.dK [])) sh3.heap.objs.size (cellsFrom (sh3.heap.objs.size + 1) sc.names (cloFrom X.env.cells sc.names [])) fp
  have noFp : ∀ b ∈ fp, (upd hy2 D (.dK [])) b = none := fun b hb => (fo3 b hb).1.1
  let post := compPost (model X.prog X.w) X.A X.xe none (EP X pins σ Q) (.ref D) sh3.heap.objs.size
  show codeAny _ _ (.compStart (dcE kx vx t0 i0 t1 i1 sc ps) 0 (.ref it) (.ref D) (compEnvC sc (cellsFrom (sh3.heap.objs.size + 1) sc.names (cloFrom X.env.cells sc.names [])) sh3.heap.objs.size X.env)) post { sh3 with heap := pushCells (sh3.heap.push { cls := .type "dict", data := .dict #[] }) sc.names }
  generalize hbe : compEnvC sc (cellsFrom (sh3.heap.objs.size + 1) sc.names (cloFrom X.env.cells sc.names [])) sh3.heap.objs.size X.env = be at iv4 pg pi1 pg1 pk pe ⊢
  have bL : be.locals = sh3.heap.objs.size := by subst hbe; rfl
  generalize defH3 : upd hy2 D (.dK []) = hy3 at iv3 iv4 pg pi1 pg1 pk pe wo0 noFp fo3
  generalize def4 : ({ sh3 with heap := pushCells (sh3.heap.push { cls := .type "dict", data := .dict #[] }) sc.names } : Shared) = sh4 at iv4 ⊢
  have sn4 : tn 0 sh4.heap := T.keep _ _ _ sn3 fun b _ o z => by subst def4; exact pushCells_keeps _ _ _ _ (Heap.get?_push_of_some _ z)
  let Y : Cx := X.blk sh3 hy3 sc be fp
  have fpStat : ∀ {σ' : L2.St} {H' : Hp} {s' : Shared}, Inv Y [] σ' H' s' → (∀ b ∈ fp, H' b = none) → ∀ b ∈ fp, FpOk Y [] H' b := fun {σ' H' s'} I' ns1 b hb =>
    ⟨ns1 b hb, (I'.ok.exf b hb).1, I'.ok.exfs b hb, .inl hb, fun x c z => (I'.ok.exf b hb).2 x c z, fun p hp => absurd (show p ∈ ([] : List (Addr × Obj)) ++ [] from hp) (by simp)⟩
  let Jn : Nat → Shared → Prop := fun n s' => ∃ i H', Inv Y [] (wipe σ (own.map (·.2))) H' s' ∧ tn i s'.heap ∧ (∀ b ∈ fp, H' b = none) ∧ W i n H'
  have walkO : codeAny (model X.prog X.w) X.A (.compLoop (dcE kx vx t0 i0 t1 i1 sc ps) 0 (.ref it) (.ref D) be) post sh4 := by
    refine dloop_out (hs1 be) Jn ?_ me0 ⟨0, hy3, iv4, sn4, noFp, wo0⟩
    rintro n sh5 ⟨i, hy5, iv5, sn5, nu5, wo5⟩
    rcases step0 i n hy5 wo5 with ⟨ends, fine⟩ | ⟨go, Nx, toNx, step⟩
    · refine thnF (T.done Y rfl rfl rfl hc i [] sh5 _ hy5 (fun _ _ => False) iv5 (fpStat iv5 nu5) sn5 ends) fun r sh6 ⟨hr, iv6⟩ => ?_
      subst hr
      have iv7 : Inv X pins σ hy5 sh6 := iv3.call' (ch := fp) iv6.os iv6.base iv6.hok iv6.bare fun b hb => ⟨(fo3 b hb).1.2.2.2.1, (fo3 b hb).1.2.1, (fo3 b hb).1.2.2.2.2.1, (fo3 b hb).1.2.2.2.2.2⟩
      have gone : hy5 sh3.heap.objs.size = none := by
        have z : hy5 be.locals = none := iv6.free
        rw [bL] at z
        exact z
      obtain ⟨m, ns1, _⟩ := iv6.loc
      have ns2 : sh6.heap.Ns be.locals m := ns1
      rw [bL] at ns2
      obtain ⟨g0, g1', g2, g3, g4, g5⟩ := iv3.fpOk (Nat.le_refl _) gone
      exact ⟨m, ns2, fun h'' sb => ⟨.ref D, hy5, iv7.turned (t' := sh6.toks) (fun b o hb z => (sb.2 b hb).trans z) g0 g1' g3 g4 g5, rfl, fine⟩⟩
    · refine thnF (T.item Y rfl rfl rfl hc i [] sh5 _ hy5 (fun _ _ => False) iv5 (fpStat iv5 nu5) sn5 go) fun r sh6 ⟨u, hr, ko6⟩ => ?_
      subst hr
      refine thnF ko6 fun _ sh7 ⟨x, hy7, iv7, rl7, y7, sn7, nu7⟩ => ?_
      have iv7' := iv7.pinned (fpStat iv7 nu7) (T.obj _ _ sn7)
      refine thnF (pg.run _ sh7 _ hy7 x u _ iv7' rl7 (step x hy7 y7)) fun _ sh8 ⟨σ8, hy8, iv8, wip8, qr8⟩ => ?_
      refine thnF ((pts_nil (X := Y)).run _ sh8 σ8 hy8 (fun b hy9 => b = true ∧ hy9 = hy8) iv8 ⟨rfl, rfl⟩) fun b sh9 ⟨hy9, iv9, hb9, hH9⟩ => ?_
      subst hb9 hH9
      -- a turn's end, from slots that know what the block knew
      have close0 : ∀ {σ9 : L2.St} {s' : Shared} {H' : Hp}, Inv Y ([] ++ pinsAt fp sh7.heap) σ9 H' s' → (wipe σ (own.map (·.2))).length = σ9.length → (∀ (j : Nat) v, (wipe σ (own.map (·.2)))[j]? = some (some v) → σ9[j]? = some (some v)) → Nx H' → ∃ m, m < n ∧ Jn m s' := fun {σ9 s' H'} I' hl kp next => by
        obtain ⟨mm, less, ww⟩ := toNx H' next
        have pinned2 : ∀ b ∈ fp, ∀ o, sh7.heap.get? b = some o → s'.heap.get? b = some o ∧ H' b = none := fun b hb o z =>
          let y := I'.pin (b, o) (List.mem_append_right _ (List.mem_append_right _ (mem_pinsAt hb z)))
          ⟨y.1, y.2.1⟩
        refine ⟨mm, less, i + 1, H', (I'.unpinned (pins := [])).weak hl kp, T.keep _ _ _ sn7 fun b hb o z => (pinned2 b hb o z).1, fun b hb => ?_, ww⟩
        obtain ⟨o, z, _⟩ := T.obj _ _ sn7 b hb
        exact (pinned2 b hb o z).2
      have len8 : (wipe σ (own.map (·.2))).length = σ8.length := by rw [← wip8, wipe_length]
      have keeps9 : ∀ (j : Nat) v, (wipe σ (own.map (·.2)))[j]? = some (some v) → (wipe σ8 vs1)[j]? = some (some v) := fun j v z => by
        rw [← wip8] at z
        obtain ⟨z1, z2⟩ := wipe_some z
        rw [wipe_out fun y => z2 (hv j y)]
        exact z1
      show if true = true then _ else _
      rw [if_pos rfl]
      refine thnF (pi1.run _ sh9 σ8 hy9 _ iv9 qr8) fun xv sh10 hx => thnF hx fun jtv sh11 ko11 => ?_
      obtain ⟨jt, fp1, tn1, J1, hy11, eJt, iv11, T1, sn11, fo11, W1, ⟨me1, wo1⟩, step1o⟩ := ko11
      subst eJt
      have fpStat1 : ∀ {H' : Hp}, (∀ b ∈ fp1, H' b = none) → ∀ b ∈ fp1, FpOk Y ([] ++ pinsAt fp sh7.heap) H' b := fun ns1 b hb => ⟨ns1 b hb, (fo11 b hb).2⟩
      have walkI : codeAny (model X.prog X.w) X.A (.compLoop (dcE kx vx t0 i0 t1 i1 sc ps) 1 (.ref jt) (.ref D) be)
          (fun r s' => match r with
            | .ok _ => ∃ m, m < n ∧ Jn m s'
            | .error _ => False) sh11 := by
        refine dloop_in (fun k s' => ∃ j H', Inv Y ([] ++ pinsAt fp sh7.heap) (wipe σ8 vs1) H' s' ∧ tn1 j s'.heap ∧ (∀ b ∈ fp1, H' b = none) ∧ W1 j k H') ?_ me1 ⟨0, hy11, iv11.weak (wipe_length _ _) (fun j v z => (wipe_some z).1), sn11, fun b hb => (fo11 b hb).1, wo1⟩
        rintro k sh12 ⟨j, hy12, iv12, sn12, nu12, wo12⟩
        rcases step1o j k hy12 wo12 with ⟨ends1, next1⟩ | ⟨runs1, Nx1, toNx1, step1⟩
        · refine thnF (T1.done Y rfl rfl rfl hc j _ sh12 (wipe σ8 vs1) hy12 (fun _ _ => False) iv12 (fpStat1 nu12) sn12 ends1) fun r sh13 ⟨hr, iv13⟩ => ?_
          subst hr
          exact close0 iv13 (len8.trans (wipe_length σ8 vs1).symm) keeps9 next1
        · refine thnF (T1.item Y rfl rfl rfl hc j _ sh12 (wipe σ8 vs1) hy12 (fun _ _ => False) iv12 (fpStat1 nu12) sn12 runs1) fun r sh13 ⟨u1, hr, ko13⟩ => ?_
          subst hr
          refine thnF ko13 fun _ sh14 ⟨xa1, hy14, iv14, rl14, y14, sn14, nu14⟩ => ?_
          have iv14' := iv14.pinned (fpStat1 nu14) (T1.obj _ _ sn14)
          refine thnF (pg1.run _ sh14 (wipe σ8 vs1) hy14 xa1 u1 _ iv14' rl14 (step1 xa1 hy14 y14)) fun _ sh15 ⟨σ15, hy15, iv15, wip15, qr15⟩ => ?_
          refine thnF ((pts_nil (X := Y)).run _ sh15 σ15 hy15 (fun b hy9 => b = true ∧ hy9 = hy15) iv15 ⟨rfl, rfl⟩) fun b sh16 ⟨hy16, iv16, hb16, hH16⟩ => ?_
          subst hb16 hH16
          have close1 : ∀ {s' : Shared} {H' : Hp}, Inv Y (([] ++ pinsAt fp sh7.heap) ++ pinsAt fp1 sh14.heap) σ15 H' s' → Nx1 H' → ∃ m, m < k ∧ ∃ j H', Inv Y ([] ++ pinsAt fp sh7.heap) (wipe σ8 vs1) H' s' ∧ tn1 j s'.heap ∧ (∀ b ∈ fp1, H' b = none) ∧ W1 j m H' := fun {s' H'} I' next => by
            obtain ⟨mm, less, ww⟩ := toNx1 H' next
            have pinned2 : ∀ b ∈ fp1, ∀ o, sh14.heap.get? b = some o → s'.heap.get? b = some o ∧ H' b = none := fun b hb o z =>
              let y := I'.pin (b, o) (List.mem_append_right _ (List.mem_append_right _ (mem_pinsAt hb z)))
              ⟨y.1, y.2.1⟩
            refine ⟨mm, less, j + 1, H', I'.unpinned.weak (by rw [← wip15, wipe_length]) (fun j v z => by rw [← wip15] at z; exact (wipe_some z).1), T1.keep _ _ _ sn14 fun b hb o z => (pinned2 b hb o z).1, fun b hb => ?_, ww⟩
            obtain ⟨o, z, _⟩ := T1.obj _ _ sn14 b hb
            exact (pinned2 b hb o z).2
          show if true = true then _ else _
          rw [if_pos rfl]
          refine thnF (pk.run _ sh16 σ15 hy16 _ iv16 qr15) fun a sh17 ⟨yk, hy17, iv17, rl17, qr17⟩ => ?_
          refine thnF (pe.run _ sh17 σ15 hy17 _ iv17 qr17) fun b sh18 ⟨yv, hy18, iv18, rl18, kvs, key, ek, hD18, hz18, next⟩ => ?_
          subst ek
          exact d_dictSet (X := Y) iv18 hD18 hz18 rl17 rl18 fun sh19 iv19 => close1 iv19 next
      exact dstart_in walkI (T1.self X.A 0 _ _ _ sn11 walkI)
  exact codeAny_compStart_dict walkO (T.self X.A 0 _ _ _ sn4 walkO)
end
end K15
namespace K15
open PySem PySem.Spec L2 PyProof.Rows
section
variable {s : Shared} {P : Program} {w : World} {A : Around} {E : Value → Shared → Prop}
set_option maxHeartbeats 3300000 in
theorem call_set_lstI {l : Addr} {vals : Array Value} (ns : List Int) {Q : Value → Shared → Prop} (calm : A.handled = none) (hl : s.heap.IsList l vals) (areI : IntsAre vals.toList ns) (bnd : ns.length + 1 < scanBound)
    (h : ∀ (h' : Heap) (tq c : Nat), SetR w h' s.heap.objs.size (fun j => decide (j ∈ ns)) c → c ≤ ns.length → (∀ b o, s.heap.get? b = some o → h'.get? b = some o) → Q (.ref s.heap.objs.size) { s with heap := h', toks := tq }) :
    wpAny (model P w) A (call (Value.type "set") [Value.ref l]) Q E s := by
  have zn : vals.size = ns.length := by
    have q := IntsAre.length areI
    rw [Array.length_toList] at q
    exact q
  obtain ⟨c, tl, ordr⟩ := F.called_set.mro
  have mkd := F.called_set.made
  have sbt := F.called_set.sub
  (refine wpAny_call (codeAny_of_tree ?_))
  (show wpAny _ _ (callAny (.type "set") _) _ _ _)
  (refine wpAny_pure ⟨Code.quiet_builtin _ (by decide +kernel), codeAny_builtin F.entry_type_call ?_⟩)
  (rw [Around.under_plain (weight_type_call_type "set" [.ref l] []) rfl])
  have nty := F.called_set.notType
  have cmk := F.called_set.canCreate
  have tcl := F.typeCall_set_1 (.ref l)
  (repeat (any_goals (first | assumption | wp_step)))

  refine codeAny_mono (code_set_led1 (.ref l) (E := E) (Q₁ := fun box s₁ => box = .ref s.heap.objs.size ∧ s₁ = { s with heap := s.heap.push { cls := .type "set", dict := none, data := .set #[] 0 (.fresh 0 0 (! w.params.followText "set-order")) } }) ⟨rfl, rfl⟩) fun r s₁ hr => ?_
  cases r with
  | error e => exact hr
  | ok fl =>
    cases fl with
    | ret box =>
      obtain ⟨rfl, rfl⟩ := hr
      have atS : (s.heap.push { cls := .type "set", dict := none, data := .set #[] 0 (.fresh 0 0 (! w.params.followText "set-order")) }).get? s.heap.objs.size = some { cls := .type "set", dict := none, data := .set #[] 0 (.fresh 0 0 (! w.params.followText "set-order")) } := Heap.get?_push_size _ rfl
      have tyS : Shared.TypeIs { s with heap := s.heap.push { cls := .type "set", dict := none, data := .set #[] 0 (.fresh 0 0 (! w.params.followText "set-order")) } } (.ref s.heap.objs.size) "set" := ⟨_, atS, rfl⟩
      have ini := F.called_set.init.lookup
      have ibd := F.called_set.init.bind (.ref s.heap.objs.size)
      (repeat (any_goals (first | assumption | wp_step)))

      refine codeAny_mono (codeAny_call_builtin (R := wants (fun r st2 => r = .none ∧ ∃ h' tk c, st2 = { s with heap := h', toks := tk } ∧ SetR w h' s.heap.objs.size (fun j => decide (j ∈ ns)) c ∧ c ≤ ns.length ∧
          (∀ b o, s.heap.get? b = some o → h'.get? b = some o)) E) F.called_set.init.plain F.entry_set_init (check_set_init_1 tyS ?_)) fun res2 st2 fin2 => ?_
      · obtain ⟨lob, lat, lcl, cap, ldt⟩ := hl
        obtain ⟨c0, d0, v0, w0⟩ := lob
        simp only at lcl ldt
        subst lcl; subst ldt
        have lat2 : (s.heap.push { cls := .type "set", dict := none, data := .set #[] 0 (.fresh 0 0 (! w.params.followText "set-order")) }).get? l = some { cls := .type "list", dict := d0, data := .seq vals cap, slots := w0 } := Heap.get?_push_of_some _ lat
        have sls := F.sub_list_set
        have slf := F.sub_list_frozenset
        have ndt : (Value.type "list" == Value.type "dict") = false := by decide
        have isL : (s.heap.push { cls := .type "set", dict := none, data := .set #[] 0 (.fresh 0 0 (! w.params.followText "set-order")) }).IsList l vals := ⟨_, lat2, rfl, cap, rfl⟩
        (unfold Builtin.«set.__init__» noKeywords Builtin.Frozenset.updateFrom)
        generalize eqI : pyIter = pit
        wp_walk
        subst eqI

        refine wpAny_pyIter_list isL ?_
        (refine wpAny_bind (wpAny_runValue ?_))
        have ltS : l < s.heap.objs.size := Heap.lt_size lat
        have hnd : A.in1.in1.in1.handled = none := by simp [calm]
        have sz1 : (s.heap.push { cls := .type "set", dict := none, data := .set #[] 0 (.fresh 0 0 (! w.params.followText "set-order")) }).objs.size = s.heap.objs.size + 1 := Heap.size_push ..
        have neI : l ≠ (s.heap.push { cls := .type "set", dict := none, data := .set #[] 0 (.fresh 0 0 (! w.params.followText "set-order")) }).objs.size := by
          rw [Heap.size_push]; exact Nat.ne_of_lt (Nat.lt_succ_of_lt ltS)
        have nmS : s.heap.objs.size ∉ [(s.heap.push { cls := .type "set", dict := none, data := .set #[] 0 (.fresh 0 0 (! w.params.followText "set-order")) }).objs.size, l] := by
          (rw [Heap.size_push]; simp only [List.mem_cons, List.mem_singleton, List.not_mem_nil, or_false, not_or])
          exact ⟨Nat.ne_of_lt (Nat.lt_succ_self _), Nat.ne_of_gt ltS⟩
        have itv : ∀ (i : Nat) (v : Value), vals[i]? = some v → ∃ k t, ns[i]? = some k ∧ v = .int k t := fun i v hv => by
          have ilt : i < ns.length := by rw [← zn]; exact (Array.getElem?_eq_some_iff.mp hv).1
          obtain ⟨t, e⟩ := PyProof.Rows.IntsAre.int_at areI i v (by rw [Array.getElem?_toList]; exact hv)
          refine ⟨ns[i], t, List.getElem?_eq_getElem ilt, ?_⟩
          rw [e, List.getD_eq_getElem?_getD, List.getElem?_eq_getElem ilt] <;> rfl
        refine set_update_ints ((Walks.list hnd _ l neI vals).toS) s.heap.objs.size
          nmS ns zn bnd itv (vals.size - 0) 0 _ (by omega) (Nat.zero_le _)
          ⟨⟨_, Heap.get?_push_size _ rfl, rfl, rfl⟩, (isL.push _)⟩ ?hS0 ?hR
        case hS0 =>
          have gts : ((s.heap.push { cls := .type "set", dict := none, data := .set #[] 0 (.fresh 0 0 (! w.params.followText "set-order")) }).push { cls := .type "list_iterator", data := .fields #[.ref l, .int 0 0] }).get? s.heap.objs.size
              = some { cls := .type "set", dict := none, data := .set #[] 0 (.fresh 0 0 (! w.params.followText "set-order")) } := Heap.get?_push_of_some _ atS
          exact ⟨0, Nat.le_refl 0, setR_new_at gts⟩
        case hR =>
          intro s' c' mvd cle stS
          obtain ⟨h', gn2, dr2, tk2, os2⟩ := s'
          have e1 : gn2 = s.gens := mvd.gens
          have e2 : dr2 = s.drawn := mvd.drawn
          have e3 : os2 = s.os := mvd.os
          subst e1; subst e2; subst e3
          show wpAny _ _ _ _ _ _
          refine wpAny_pure ?_
          (show wpAny _ _ (ret Value.none) _ _ _)
          rw [zn] at cle
          refine wpAny_pure ⟨rfl, h', tk2, c', rfl, stS, cle, fun b o e => ?_⟩
          have blt : b < s.heap.objs.size := Heap.lt_size e
          have bn1 : b ≠ s.heap.objs.size := Nat.ne_of_lt blt
          have bn2 : b ≠ (s.heap.push { cls := .type "set", dict := none, data := .set #[] 0 (.fresh 0 0 (! w.params.followText "set-order")) }).objs.size := by
            rw [Heap.size_push]; exact Nat.ne_of_lt (Nat.lt_succ_of_lt blt)
          exact mvd.heap b o (by simp only [List.mem_cons, List.mem_singleton, List.not_mem_nil, or_false, not_or]; exact ⟨bn1, bn2⟩) (Heap.get?_push_of_some _ (Heap.get?_push_of_some _ e))

      · cases res2 with
        | error e => exact fin2
        | ok flo2 =>
          cases flo2 with
          | ret r =>
            obtain ⟨rfl, h', tk, c', rfl, stS, cle, kps⟩ := fin2
            (repeat (any_goals (first | assumption | wp_step)))
            exact h _ _ _ stS cle kps
          | _ => exact fin2.elim
    | _ => exact hr.elim
end
/-- set(xs), xs a list of ints; set(t), t a tuple of ints -/
def rSetOf (K : PySem.W.Frag) (w : World) (tup : Bool) : List V → Hp → VK → Prop := fun xs H Q => ∃ (a : Addr) (ns : List Int), xs = [.ref a] ∧ (if tup = true then SqT K H a (ns.map V.int) else SqL K H a (ns.map V.int)) ∧ ns.length + 1 < scanBound ∧
  ∀ p c, H p = none → c ≤ ns.length → Q (.ref p) (upd H p (SetO w p (fun j => decide (j ∈ ns)) c))
theorem cr_setOf {X : Cx} (hc : X.calm = true) (tup : Bool) : CallR X (.type "set") (rSetOf X.K X.w tup) := by
  (intro pins s σ H xs us Q I r h)
  obtain ⟨a, ns, rfl, sqs, bnd, q⟩ := h
  obtain ⟨u, rfl, rlu⟩ := vals1 r
  cases rlu
  have fin : ∀ (h' : Heap) (tk c : Nat), SetR X.w h' s.heap.objs.size (fun j => decide (j ∈ ns)) c → c ≤ ns.length → (∀ b o, s.heap.get? b = some o → h'.get? b = some o) → EP X pins σ Q (.ref s.heap.objs.size) { s with heap := h', toks := tk } := fun h' tk c atS cle hk =>
    ⟨.ref s.heap.objs.size, _, I.laid (t' := tk) hk (Nat.le_refl _) (setO_new atS), rfl, q _ c (I.hok.fresh (Nat.le_refl _)) cle⟩
  cases tup with
  | true =>
    rw [if_pos rfl] at sqs
    obtain ⟨its, rvs, pl, _⟩ := I.tuple sqs
    exact call_set_tupI ns (I.ok.hd hc) pl (by simpa using rvs.ints) bnd fin
  | false =>
    rw [if_neg (by decide)] at sqs
    obtain ⟨its, rvs, pl, _⟩ := I.list sqs
    exact call_set_lstI ns (I.ok.hd hc) pl.isList (by simpa using rvs.ints) bnd fin
end K15
namespace K15
open PySem PySem.Spec PyProof.Rows L2 PySem.W
/-! ### sorted(..) of data, a list or a tuple of them -/
mutual
theorem reads_noL {h : Heap} : ∀ (d : PyData) (v : Value) (as : List Addr), noL d = true → Reads h v d as → as = []
  | .none, _, _, _, r => by cases r; rfl
  | .bool _, _, _, _, r => by cases r; rfl
  | .int _, _, _, _, r => by cases r; rfl
  | .str _, _, _, _, r => by cases r; rfl
  | .list _, _, _, n, _ => by simp [noL] at n
  | .tuple ds, _, _, n, r => by
    cases r with
    | tuple _ _ _ h4 => exact readsAll_noL ds _ _ (by simpa [noL] using n) h4
  | .dict _, _, _, n, _ => by simp [noL] at n
theorem readsAll_noL {h : Heap} : ∀ (ds : List PyData) (vs : List Value) (as : List Addr), noLs ds = true → ReadsAll h vs ds as → as = []
  | [], _, _, _, r => (by cases r; rfl)
  | d :: ds, _, _, n, r => by
    have n' : noL d = true ∧ noLs ds = true := by simpa [noLs] using n
    cases r with
    | cons rl1 rl2 => rw [reads_noL d _ _ n'.1 rl1, readsAll_noL ds _ _ n'.2 rl2]; rfl
end
theorem noLs_mem : ∀ {ds : List PyData} {d : PyData}, noLs ds = true → d ∈ ds → noL d = true
  | e :: ds, d, n, h => by
    have n' : noL e = true ∧ noLs ds = true := by simpa [noLs] using n
    (rcases List.mem_cons.mp h with rfl | h)
    · exact n'.1
    · exact noLs_mem n'.2 h
section
variable {s : Shared} {prog : Program} {w : World} {A : Around} {E : Value → Shared → Prop}
theorem sortedD_raw {it : Addr} {T : String} {o : Obj} {vs : List Value} {n : Nat} {ds : List PyData} {R : Value → PyData → Prop} {Q : Value → Shared → Prop} (hT : T = "list" ∨ T = "tuple") (ho : s.heap.get? it = some o) (hc : o.cls = .type T) (hd : o.data = .seq vs.toArray n)
    (e : EachIs R vs ds) (er : EachIs (fun v d => ∃ as, Reads s.heap v d as) vs ds) (nl : noLs ds = true) (hal : AllAlike ds) (hk : Sortable ds) (hL : ds.length ≤ sizeLine) (hu : ∀ d ∈ ds, A.units + 3 + d.depth < cLine)
    (h : ∀ (h1 h' : Heap) c out, (∀ b u, s.heap.get? b = some u → h1.get? b = some u) → (∀ b u, h1.get? b = some u → h'.get? b = some u) → h'.get? h1.objs.size = some (seqObj "list" (List.toArray out) c) → out.length = ds.length → EachIs R out (ds.mergeSort (dataLe false id)) → Q (.ref h1.objs.size) { s with heap := h' }) :
    wpAny (model prog w) A (call (.builtin "sorted") [.ref it]) Q E s := by
  have hvl : vs.length = ds.length := e.length
  have idm : ds.map id = ds := List.map_id ds
  (refine Calls.call_function_entry kind_sorted plain_sorted entry_sorted (args_sorted1 _) ?_)
  unfold Builtin.«sorted»
  (refine wpAny_bind (m := checkCount "sorted" 1 1 _) (wpAny_pure ?_))
  refine wpAny_bind (wpAny_collect_seq it hT ho hc hd (fun h1 ko1 => ?_) (by rw [List.size_toArray, hvl]; exact hL))
  show wpAny _ _ (newList vs >>= _) _ _ _
  refine wpAny_bind (wpAny_newList ?_ (by rw [hvl]; exact hL))
  have hoL : (h1.push (seqObj "list" vs.toArray 0)).get? h1.objs.size = some (seqObj "list" vs.toArray 0) := Heap.get?_push_size _ rfl
  have ko2 : ∀ b u, s.heap.get? b = some u → (h1.push (seqObj "list" vs.toArray 0)).get? b = some u := fun b u q => Heap.get?_push_of_some _ (ko1 b u q)
  have er2 : EachIs (fun v d => ∃ as, Reads (h1.push (seqObj "list" vs.toArray 0)) v d as ∧ h1.objs.size ∉ as) vs ds := by
    have hz : ∀ p ∈ vs.zip ds, ∃ as, Reads (h1.push (seqObj "list" vs.toArray 0)) p.1 p.2 as ∧ h1.objs.size ∉ as := fun p hp => by
      obtain ⟨as, r⟩ := er.zip p hp
      have e0 := reads_noL p.2 p.1 as (noLs_mem nl (List.of_mem_zip hp).2) r
      subst e0
      exact ⟨[], PyProof.Rows.Reads.keeps ko2 r, by simp⟩
    exact EachIs.of_zip hvl hz
  refine wpAny_bind (wpAny_holding (list_sort_data (β := PyData) (enc := id) (R := R) hoL e er2 (by rw [idm]; exact hal) (by rw [idm]; exact hk) hL (fun d hd => by have := hu d hd; show A.units + 1 + 1 + d.depth < cLine; omega) fun out hl eo => ?_))
  obtain ⟨c, hcc⟩ := sortedHeap_at (vs := vs) (out := List.toArray out) hoL
  refine wpAny_pure ⟨_, rfl, h h1 _ c out ko1 (fun b u qr1 => ?_) hcc hl eo⟩
  have lt := Heap.lt_size qr1
  show (sortedHeap (h1.push (seqObj "list" vs.toArray 0)) h1.objs.size vs out.toArray).get? b = some u
  rw [sortedHeap_old (Nat.ne_of_lt lt) (by rw [size_push']; exact Nat.lt_succ_of_lt lt)]
  exact Heap.get?_push_of_some _ qr1
end
section
variable {X : Cx} {K : PySem.W.Frag}
theorem depth_shaped {d : PyData} (h : d.depth ≤ 32) : d.depth ≤ 32 := h
/-- what sorted(..) asks of data -/
def rSortD (K : PySem.W.Frag) (tup : Bool) : List V → Hp → VK → Prop := fun xs H Q => ∃ (a : Addr) (vs : List V) (ds : List PyData), xs = [.ref a] ∧ (if tup = true then SqT K H a vs else SqL K H a vs) ∧ DpAll K H vs ds ∧ noLs ds = true ∧ AllAlike ds ∧ Sortable ds ∧ ds.length ≤ 100000 ∧ (∀ d ∈ ds, d.depth ≤ 32) ∧
  ∀ p ys, H p = none → DpAll K H ys (ds.mergeSort (dataLe false id)) → Q (.ref p) (upd H p (.lst ys))
theorem each_dp {pins : List (Addr × Obj)} {σ : L2.St} {H : Hp} {s : Shared} (I : Inv X pins σ H s) : ∀ {vs : List V} {us : List Value} {ds : List PyData}, Vals vs us → DpAll X.K H vs ds → EachIs (fun u d => ∃ v, RelV v u ∧ Dp X.K H v d) us ds ∧ EachIs (fun u d => ∃ as, Reads s.heap u d as) us ds
  | _, _, _, .nil, h => by cases h; exact ⟨.nil, .nil⟩
  | _, _, _, .cons r t, h => by
    cases h with
    | cons h1 h2 =>
      obtain ⟨qr1, qr2⟩ := each_dp I t h2
      exact ⟨.cons ⟨_, r, h1⟩ qr1, .cons (Dp.reads I _ _ _ h1 r) qr2⟩
theorem each_back {H : Hp} : ∀ {us : List Value} {ds : List PyData}, EachIs (fun u d => ∃ v, RelV v u ∧ Dp K H v d) us ds → ∃ vs, Vals vs us ∧ DpAll K H vs ds
  | _, _, .nil => ⟨[], .nil, .nil⟩
  | _, _, .cons ⟨v, r, h⟩ t => by
    obtain ⟨vs, qr1, qr2⟩ := each_back t
    exact ⟨v :: vs, .cons r qr1, .cons h qr2⟩
theorem cr_sortD (tup : Bool) {k : Nat} (hr : Room k X.A) : CallR X (.builtin "sorted") (rSortD X.K tup) := by
  (intro pins s σ H xs us Q I r h)
  obtain ⟨a, vs, ds, rfl, hs, hd, nl, hal, hk, hL, hdep, q⟩ := h
  (obtain ⟨u, rfl, ru⟩ := vals1 r)
  cases ru
  have un := hr.un
  have go : ∀ {T : String} {o : Obj} {its : List Value} {n : Nat}, (T = "list" ∨ T = "tuple") → s.heap.get? a = some o → o.cls = .type T → o.data = .seq its.toArray n → Vals vs its → wpAny (model X.prog X.w) X.A (call (.builtin "sorted") [.ref a]) (EP X pins σ Q) X.xe s := by
    intro T o its n hT ho hc hdat rv
    obtain ⟨e1, e2⟩ := each_dp I rv hd
    refine sortedD_raw hT ho hc hdat e1 e2 nl hal hk (Nat.le_trans hL (by decide)) (fun d hd' => by have := hdep d hd'; omega) fun h1 h' c out ko1 ko2 hp hl eo => ?_
    obtain ⟨ys, ry, dy⟩ := each_back eo
    have iv1 : Inv X pins σ H { s with heap := h1 } := I.kept (t' := s.toks) ko1
    have hlen : ys.length ≤ sizeLine := by
      rw [ry.length, hl]
      exact Nat.le_trans hL (by decide)
    exact ⟨.ref h1.objs.size, upd H h1.objs.size (.lst ys), iv1.laid (t' := s.toks) ko2 (Nat.le_refl _) ⟨hlen, out, c, ry, hp⟩, rfl, q _ ys (iv1.hok.fresh (Nat.le_refl _)) dy⟩
  cases tup with
  | true =>
    rw [if_pos rfl] at hs
    obtain ⟨its, rv, ⟨o, ho, hc, n, hdat⟩, _⟩ := I.tuple hs
    exact go (.inr rfl) ho hc hdat rv
  | false =>
    rw [if_neg (by decide)] at hs
    obtain ⟨its, rv, ⟨o, n, ho, hc, _, hdat⟩, _⟩ := I.list hs
    exact go (.inl rfl) ho hc hdat rv
/-- what min(list) asks of data -/
def rMinD (K : PySem.W.Frag) : List V → Hp → VK → Prop := fun xs H Q => ∃ (a : Addr) (vs : List V) (d : PyData) (ds : List PyData), xs = [.ref a] ∧ SqL K H a vs ∧ DpAll K H vs (d :: ds) ∧ AlikeAll (d :: ds) ∧ PyData.depthAll (d :: ds) ≤ 32 ∧
  ∀ v, Dp K H v (minD d ds) → Q v H
theorem cr_minD (hc : X.calm = true) {k : Nat} (hr : Room k X.A) : CallR X (.builtin "min") (rMinD X.K) := by
  (intro pins s σ H xs us Q I r h)
  obtain ⟨a, vs, d, ds, rfl, hs, hd, hal, hdep, q⟩ := h
  (obtain ⟨u, rfl, ru⟩ := vals1 r)
  cases ru
  have un := hr.un
  obtain ⟨its, rv, pl, _⟩ := I.list hs
  obtain ⟨as, rs⟩ := Dp.readsAll I _ _ _ hd rv
  refine min_list_data (I.ok.hd hc) pl.isList (by simpa using rs) hal (by omega) fun i v h' tk bs hi rd hk => ?_
  have hi' : its[i]? = some v := by simpa using hi
  have I' : Inv X pins σ H { s with heap := h', toks := tk } := I.kept hk
  have hlen : vs.length = its.length := rv.length
  have lt1 : i < vs.length := by
    rw [hlen]
    exact (List.getElem?_eq_some_iff.mp hi').1
  obtain ⟨v', h1, h2⟩ := rv.get (List.getElem?_eq_getElem lt1)
  rw [hi'] at h1
  have ev := Option.some.inj h1
  subst ev
  obtain ⟨e, he, hde⟩ := dps_get' hd (List.getElem?_eq_getElem lt1)
  obtain ⟨cs, rd2⟩ := Dp.reads I' _ _ _ hde h2
  have hm : minD d ds ∈ d :: ds := by
    have : ∀ (l : List PyData) (x : PyData), minD x l ∈ x :: l := by
      intro l
      induction l with
      | nil => intro x; exact List.mem_cons_self
      | cons y l ih =>
        intro x
        have q := ih (if dataLt y x then y else x)
        have eqn : minD x (y :: l) = minD (if dataLt y x then y else x) l := rfl
        rw [eqn]
        rcases List.mem_cons.mp q with q | q
        · rw [q]
          split
          · exact List.mem_cons_of_mem _ List.mem_cons_self
          · exact List.mem_cons_self
        · exact List.mem_cons_of_mem _ (List.mem_cons_of_mem _ q)
    exact this ds d
  have ee : e = minD d ds := alike_unique e _ _ _ _ (hal.1 e (List.mem_of_getElem? he) _ hm) rd2 rd
  subst ee
  exact ⟨vs[i], H, I', h2, q _ hde⟩
end
end K15
namespace K15
open PySem PySem.Spec L2 PyProof.Rows
/-! ### for i, x in enumerate(t), t a tuple -/
abbrev enO (it : Addr) : Obj := { cls := .type "enumerate", data := .fields #[.none, .bool false, .ref it, rawInt 0, .none, .none] }
abbrev tiO (t : Addr) : Obj := { cls := .type "tuple_iterator", data := .fields #[.ref t, .int 0 0] }
theorem enum_newT (t : Addr) (items : Array Value) :
    Meets (Builtin.«enumerate.__new__» ⟨[.type "enumerate", .ref t], []⟩) (fun _ R s => s.heap.IsTuple t items ∧ R (.ok (.ret (.ref (s.heap.push (tiO t)).objs.size))) { s with heap := (s.heap.push (tiO t)).push (enO s.heap.objs.size) }) := .of_wp fun prog w A R s h => by
    (obtain ⟨hp, g, d, tk, os⟩ := s)
    obtain ⟨ht, h⟩ := h
    have sub1 := sub_enumerate
    have it1 : ∀ {A' : Around} {E : Value → Shared → Prop} {Q : Value → Shared → Prop}, Q (.ref hp.objs.size) ⟨hp.push (tiO t), g, d, tk, os⟩ → wpAny (model prog w) A' (pyIter (.ref t)) Q E ⟨hp, g, d, tk, os⟩ := fun q => wpAny_pyIter_tuple ht q
    wp_walk using it1
    (refine wpAny_stack_any fun st => wpAny_pure ?_)
    split
    · rename_i c _ _ _ _ _
      (cases (c == Value.type "enumerate"))
      · wp_walk using it1
        exact ⟨_, rfl, h⟩
      · wp_walk using it1
        exact ⟨_, rfl, h⟩
    · wp_walk using it1
      exact ⟨_, rfl, h⟩
section
variable {s : Shared} {prog : Program} {w : World} {A : Around} {E : Value → Shared → Prop}
theorem call_enumT {t : Addr} {items : Array Value} {Q : Value → Shared → Prop} (ht : s.heap.IsTuple t items)
    (h : ∀ h', IsEnum h' (s.heap.objs.size + 1) s.heap.objs.size 0 .none → h'.IsTupleIter s.heap.objs.size t 0 → (∀ b o, s.heap.get? b = some o → h'.get? b = some o) → Q (.ref (s.heap.objs.size + 1)) { s with heap := h' }) :
    wpAny (model prog w) A (call (.type "enumerate") [.ref t]) Q E s := by
  refine callType_new F.called_enumerate (by decide) (F.typeCall_enumerate_1 _) (F.newCall_enumerate_1 _) (fun box => F.args_object_init_2 box _) F.entry_enumerate_new (enum_newT t items) ⟨ht, ?_⟩
  have z : (s.heap.push (tiO t)).objs.size = s.heap.objs.size + 1 := Heap.size_push ..
  show _ ∧ _
  rw [z]
  have ent : IsEnum ((s.heap.push (tiO t)).push (enO s.heap.objs.size)) (s.heap.objs.size + 1) s.heap.objs.size 0 .none := by
    have q := Heap.get?_push_size (s.heap.push (tiO t)) (o := enO s.heap.objs.size) rfl
    rw [z] at q
    exact q
  exact ⟨⟨_, ent, rfl⟩, h _ ent ⟨_, Heap.get?_push_of_some _ (Heap.get?_push_size _ rfl), rfl, rfl⟩ fun b o x => Heap.get?_push_of_some _ (Heap.get?_push_of_some _ x)⟩
end
/-- vals turns -/
def IteT (K : PySem.W.Frag) (a : Addr) : It :=
  ⟨fun i H => ∃ (xs : List V) (x : V), SqT K H a xs ∧ xs[i]? = some x, fun i H v H' => ∃ T x, v = .ref T ∧ H T = none ∧ H' = upd H T (.tup [.int (i : Nat), x]) ∧ ∀ xs, SqT K H a xs → xs[i]? = some x, fun i H => ∃ xs : List V, SqT K H a xs ∧ xs.length = i⟩
theorem turn_enumT {P : Program} {w : World} {K : PySem.W.Frag} {elts : List Expr} {kk : Nat} {tpos : Pos} (a e it : Addr) :
    Turn P w K (.Tuple elts kk tpos) (IteT K a) [e, it] e (fun i h => (∃ prev, IsEnum h e it ((i : Nat) : Int) prev) ∧ h.IsTupleIter it a i ∧ e ≠ it ∧ e ≠ a ∧ it ≠ a) where
  mem := by simp
  obj := fun i h st b hb => by
    obtain ⟨⟨prev, ent⟩, ⟨o, obt, cl, dat⟩, _⟩ := st
    rcases (show b = e ∨ b = it by simpa using hb) with rfl | rfl
    · exact ⟨_, ent, fun v q => nomatch q⟩
    · exact ⟨o, obt, fun v q => by rw [dat] at q; cases q⟩
  keep := fun i h h' st k => let ⟨⟨prev, ent⟩, hi, hne⟩ := st; ⟨⟨prev, k e (by simp) _ ent⟩, hi.at fun o q => k it (by simp) o q, hne⟩
  item := by
    intro X hP hw hK cl i pins s σ H E I hf st hg
    subst hP hw hK
    obtain ⟨⟨prev, ent⟩, hit, hne, hea, hia⟩ := st
    obtain ⟨xs, x, sqs, hx⟩ := hg
    obtain ⟨vals, rvs, p, fits⟩ := I.tuple sqs
    obtain ⟨u, hu, ru⟩ := rvs.get hx
    have lte : e < s.heap.objs.size := Heap.lt_size ent
    have lti : it < s.heap.objs.size := by obtain ⟨_, q, _⟩ := hit; exact Heap.lt_size q
    have hlt : i < vals.toArray.size := by
      rw [List.size_toArray]
      exact (List.getElem?_eq_some_iff.mp hu).1
    refine wpAny_pyNext_enum_itemD (Draws.tuple (prog := X.prog) (w := X.w) (A := X.A.in1) (I.ok.hd cl) it a (Ne.symm hia) vals.toArray) ent ⟨hit, p⟩ hlt hne (by simp [hne, hea]) fun y h' tk hy obt ⟨hit', _⟩ hT hsz keeps => ?_
    have ey : y = u := by
      have hy' : vals.toArray[i]? = some y := hy
      rw [List.getElem?_toArray, hu] at hy'
      exact (Option.some.inj hy').symm
    subst ey
    refine ⟨_, rfl, wpAny_letOwnedTupleGo_enum (s := { s with heap := h', toks := tk + 1 }) obt fun h'' he' subs => ?_⟩
    have hT2 : h''.get? s.heap.objs.size = some { cls := .type "tuple", data := .seq #[.int i tk, y] } := (subs.2 _ (Nat.ne_of_gt lte)).trans hT
    have laid : ObjOk X.prog X.w (upd H s.heap.objs.size (.tup [.int (i : Nat), x])) h'' s.heap.objs.size (.tup [.int (i : Nat), x]) :=
      ⟨by show 2 ≤ sizeLine; decide, [.int i tk, y], .cons ⟨_, rfl⟩ (.cons ru .nil), ⟨_, hT2, rfl, _, rfl⟩⟩
    have J1 : Inv X pins σ (upd H s.heap.objs.size (.tup [.int (i : Nat), x])) { s with heap := h'', toks := tk + 1 } :=
      I.turnedNew (ch := [e, it]) (fun b box hb q => (subs.2 b (fun z => hb (by simp [z]))).trans (keeps b box (fun z => hb (by simp [z])) (fun z => hb (by simp [z])) q)) hf (Nat.le_refl _) laid
    refine ⟨.ref s.heap.objs.size, _, J1, rfl, ⟨_, x, rfl, I.hok.fresh (Nat.le_refl _), rfl, fun ys hy => by rw [I.tuple_inj hy sqs]; exact hx⟩, ⟨⟨y, ?_⟩, hit'.at fun o q => (subs.2 it (Ne.symm hne)).trans q, hne, hea, hia⟩, fun b hb => ?_⟩
    · rw [show ((i + 1 : Nat) : Int) = (i : Int) + 1 by omega]
      exact he'
    · have blt : b < s.heap.objs.size := by
        rcases (show b = e ∨ b = it by simpa using hb) with rfl | rfl
        · exact lte
        · exact lti
      rw [upd_ne (Nat.ne_of_lt blt)]
      exact (hf b hb).1
  done := by
    intro X hP hw hK cl i pins s σ H E I hf st hg
    subst hP hw hK
    obtain ⟨⟨prev, ent⟩, hit, hne, hea, hia⟩ := st
    obtain ⟨xs, sqs, hx⟩ := hg
    obtain ⟨vals, rvs, p, fits⟩ := I.tuple sqs
    obtain ⟨fo0, fo1, fo2, fo3, fo4, fo5⟩ := hf it (by simp)
    have hl := rvs.length
    have D := Draws.tuple (prog := X.prog) (w := X.w) (A := X.A.in1) (I.ok.hd cl) it a (Ne.symm hia) vals.toArray
    have en : i = vals.toArray.size := by
      rw [List.size_toArray, ← hl]
      exact hx.symm
    refine wpAny_pyNext_enum_endD D ent ⟨en ▸ hit, p⟩ fun h' eb => ⟨rfl, I.turned (t' := s.toks) (fun b o hb q => eb b o hb q) fo0 fo1 fo3 fo4 fo5⟩
  self := fun A i s Q E st h => let ⟨⟨_, ent⟩, _⟩ := st; wpAny_pyIter_enum ent h
theorem walk_enumT {K : PySem.W.Frag} {a : Addr} {xs : List V} : Walk (IteT K a) xs.length (fun H => SqT K H a xs) (YPair (fun i => some (.int (i : Nat))) (fun i => xs[i]?)) := by
  refine ⟨fun i _ hi q => ⟨xs, xs[i], q, by simp [hi]⟩, fun _ q => ⟨xs, q, rfl⟩, fun i H v H' _ q y => ?_⟩
  (obtain ⟨T, x, h1, h2, h3, h4⟩ := y)
  (exact ⟨T, .int (i : Nat), x, h1, h2, h3, rfl, h4 xs q⟩)
def iEnumT (K : PySem.W.Frag) (ta : TA) : TI := fun σ H R => ta σ H fun vs hy1 => ∃ a xs, vs = [.ref a] ∧ SqT K hy1 a xs ∧ R (IteT K a) hy1
theorem kEnumT {X : Cx} {K : PySem.W.Frag} (hK : X.K = K) {e : Expr} {ta : TA} {p pos tpos : Pos} {elts : List Expr} {kk : Nat} (hg : Gl X "enumerate") (hm : X.mg "enumerate" = none) (ha : PA X [e] ta) (hs : starEach [e] X.env = [(false, eval e X.env)] := by rfl) :
    PI X (.Tuple elts kk tpos) (.Call (.Name "enumerate" p) [e] [] pos) (iEnumT K ta) := by
  subst hK
  (refine ⟨fun pins s σ H R I h => ?_⟩)
  refine Call_ (ld_blt I hg hm boot_enumerate (PyProof.Rows.callWith_type1 (thn (ha.run pos pins s σ H _ I h) fun us sh1 ⟨vs, hy1, iv1, rl1, qr1⟩ => ?_) hs rfl))
  obtain ⟨a, xs, ex, sqs, q⟩ := qr1
  subst ex
  obtain ⟨u, rfl, ru⟩ := vals1 rl1
  cases ru
  obtain ⟨vals, rvs, p', fits⟩ := iv1.tuple sqs
  have la : a < sh1.heap.objs.size := by
    obtain ⟨o, obt, _⟩ := p'
    exact Heap.lt_size obt
  refine call_enumT p' fun h' ent hit keeps => wpAny_pyIter_enum ent ?_
  have iv2 : Inv X pins σ hy1 { sh1 with heap := h' } := iv1.kept (t' := sh1.toks) keeps
  refine ⟨sh1.heap.objs.size + 1, [sh1.heap.objs.size + 1, sh1.heap.objs.size], _, _, hy1, rfl, iv2, turn_enumT a (sh1.heap.objs.size + 1) sh1.heap.objs.size, ⟨⟨.none, ent⟩, hit, Nat.succ_ne_self _, Nat.ne_of_gt (Nat.lt_succ_of_lt la), Nat.ne_of_gt la⟩, fun b hb => ?_, q⟩
  have lele : sh1.heap.objs.size ≤ b := by
    rcases (show b = sh1.heap.objs.size + 1 ∨ b = sh1.heap.objs.size by simpa using hb) with z | z
    · (rw [z]; exact Nat.le_add_right _ _)
    · rw [z]; exact Nat.le_refl _
  exact iv1.fpOk lele (iv1.hok.fresh lele)
end K15
namespace K15
open PySem L2 Evl
theorem rW (w : World) : w = w := rfl
section
variable {X : Cx} {K : PySem.W.Frag} {w : World} {e : Expr} {te : TE} {pos p p2 pos2 : Pos}
/-- sorted(set(e)) -/
def tSetS (K : PySem.W.Frag) (w : World) (tup : Bool) (te : TE) : TE := tCB (rSortedSet w) (tCons (tCB (rSetOf K w tup) (tCons te tNil)) tNil)
theorem xSetS (hK : X.K = K) (hw : X.w = w) (tup : Bool) (hc : X.calm = true) (hm : X.mg "sorted" = none) (hm2 : X.mg "set" = none) (h : PE X e te) (hg : Gl X "sorted" := by rfl) (hg2 : Gl X "set" := by rfl)
    (he : starEach [e] X.env = (false, eval e X.env) :: starEach [] X.env := by rfl) (hpl : (backTo pos2 (starEach [] X.env)).any (·.1) = false := by rfl)
    (he2 : starEach [.Call (.Name "set" p2) [e] [] pos2] X.env = (false, eval (.Call (.Name "set" p2) [e] [] pos2) X.env) :: starEach [] X.env := by rfl) (hpl2 : (backTo pos (starEach [] X.env)).any (·.1) = false := by rfl) :
    PE X (.Call (.Name "sorted" p) [.Call (.Name "set" p2) [e] [] pos2] [] pos) (tSetS K w tup te) := by
  subst hK hw
  exact pe_callB (cr_sortedSet hc) hg hm PyProof.Rows.boot_sorted (pa_cons (pe_callTy (cr_setOf hc tup) hg2 hm2 PyProof.Rows.boot_set (pa_cons h pa_nil he) (by decide) (by decide) he hpl) pa_nil he2) (by decide) (by decide) he2 hpl2
theorem xSortD (hK : X.K = K) (tup : Bool) {k : Nat} (hm : X.mg "sorted" = none) (hr : Room k X.A) (h : PE X e te) (hg : Gl X "sorted" := by rfl) (he : starEach [e] X.env = (false, eval e X.env) :: starEach [] X.env := by rfl) (hpl : (backTo pos (starEach [] X.env)).any (·.1) = false := by rfl) :
    PE X (.Call (.Name "sorted" p) [e] [] pos) (tCB (rSortD K tup) (tCons te tNil)) := by
  subst hK
  exact pe_callB (cr_sortD tup hr) hg hm PyProof.Rows.boot_sorted (pa_cons h pa_nil he) (by decide) (by decide) he hpl
theorem xMinD (hK : X.K = K) {k : Nat} (hc : X.calm = true) (hm : X.mg "min" = none) (hr : Room k X.A) (h : PE X e te) (hg : Gl X "min" := by rfl) (he : starEach [e] X.env = (false, eval e X.env) :: starEach [] X.env := by rfl) (hpl : (backTo pos (starEach [] X.env)).any (·.1) = false := by rfl) :
    PE X (.Call (.Name "min" p) [e] [] pos) (tCB (rMinD K) (tCons te tNil)) := by
  subst hK
  exact pe_callB (cr_minD hc hr) hg hm PyProof.Rows.boot_min (pa_cons h pa_nil he) (by decide) (by decide) he hpl
end
section
variable {K : PySem.W.Frag} {σ : L2.St} {H : Hp} {ta tb te tl tl1 tk tv : TE} {d : PyData} {ds : List PyData}
theorem dps_vints : ∀ (ns : List Int), DpAll K H (ns.map V.int) (ns.map .int) := dps_of_ints
theorem ed_setS {w : World} {ns as : List Int} (tup : Bool) (h : Ed K ta σ H (if tup = true then .tuple (ns.map .int) else .list (ns.map .int))) (hz : ns.length < 64) (ha : Asc as) (hm : ∀ k, k ∈ as ↔ k ∈ ns) : Ed K (tSetS K w tup ta) σ H (.list (as.map .int)) := fun H1 e Q q =>
  h H1 e _ fun v H2 e2 hv => by
    have fin : ∀ a, v = .ref a → (if tup = true then SqT K H2 a (ns.map V.int) else SqL K H2 a (ns.map V.int)) → rSetOf K w tup [v] H2 fun u H3 => rSortedSet w [u] H3 Q := fun a ev hs => by
      subst ev
      refine ⟨a, ns, rfl, hs, by unfold PySem.scanBound; omega, fun p c hp hc => ?_⟩
      refine ⟨p, _, c, rfl, upd_same, by omega, fun xs p2 h1 h2 _ hn => ?_⟩
      have ex : xs = as := asc_ext h1 ha fun k => by rw [h2 k, decide_eq_true_eq]; exact (hm k).symm
      subst ex
      have e3 : Ex H2 (upd H2 p (SetO w p (fun j => decide (j ∈ ns)) c)) := Ex.new hp
      exact q _ _ ((e2.trans e3).trans (Ex.new hn)) (.lst (sq_of upd_same) (dps_of_ints _))
    cases tup with
    | true =>
      obtain ⟨a, vs, rfl, hs, hd⟩ := dp_tup hv
      rw [dps_ints hd] at hs
      exact fin a rfl hs
    | false =>
      obtain ⟨a, vs, rfl, hs, hd⟩ := dp_lst hv
      rw [dps_ints hd] at hs
      exact fin a rfl hs
theorem ed_sortD (tup : Bool) (h : Ed K ta σ H (if tup = true then .tuple ds else .list ds)) (nl : noLs ds = true) (hal : PySem.W.AllAlike ds) (hk : PySem.W.Sortable ds) (hL : ds.length ≤ 100000) (hd : ∀ d ∈ ds, d.depth ≤ 32) :
    Ed K (tCB (rSortD K tup) (tCons ta tNil)) σ H (.list (ds.mergeSort (PySem.W.dataLe false id))) := fun H1 e Q q =>
  h H1 e _ fun v H2 e2 hv => by
    have fin : ∀ a vs, v = .ref a → (if tup = true then SqT K H2 a vs else SqL K H2 a vs) → DpAll K H2 vs ds → rSortD K tup [v] H2 Q := fun a vs ev hs hd2 => by
      subst ev
      refine ⟨a, vs, ds, rfl, hs, hd2, nl, hal, hk, hL, hd, fun p ys hp hy => q _ _ (e2.trans (Ex.new hp)) (.lst (sq_of upd_same) (dps_ex (Ex.new hp) _ _ hy))⟩
    cases tup with
    | true =>
      obtain ⟨a, vs, rfl, hs, hd⟩ := dp_tup hv
      exact fin a vs rfl hs hd
    | false =>
      obtain ⟨a, vs, rfl, hs, hd⟩ := dp_lst hv
      exact fin a vs rfl hs hd
theorem ed_minD (h : Ed K ta σ H (.list (d :: ds))) (hal : PySem.W.AlikeAll (d :: ds)) (hd : PyData.depthAll (d :: ds) ≤ 32) : Ed K (tCB (rMinD K) (tCons ta tNil)) σ H (PySem.W.minD d ds) := ed_cb (ea1 h) fun vs H1 _ hv Q q => by
  obtain ⟨v, rfl, hw⟩ := dps_1 hv
  obtain ⟨a, xs, rfl, hs, hd2⟩ := dp_lst hw
  exact ⟨a, xs, d, ds, rfl, hs, hd2, hal, hd, fun v hv => q v H1 (Ex.refl H1) hv⟩
/-- a walk by a word -/
theorem mkW {J : It} {n : Nat} {G : Hp → Prop} {Y : Nat → Hp → V → Hp → Prop} (w : Walk J n G Y) {H0 : Hp} {Done : Hp → Prop} {Step : (Hp → Prop) → V → Hp → Prop} (Pv : Nat → Hp → Prop) (h0 : Pv 0 H0) (hG : ∀ i H, i ≤ n → Pv i H → G H)
    (hs : ∀ i x H H', i < n → Pv i H → Y i H x H' → Step (Pv (i + 1)) x H') (hd : ∀ H, Pv n H → Done H) :
    ∃ W : Nat → Nat → Hp → Prop, (∃ m, W 0 m H0) ∧ ∀ i m H, W i m H → (J.stop i H ∧ Done H) ∨ (J.go i H ∧ ∃ Nx : Hp → Prop, (∀ H', Nx H' → ∃ m', m' < m ∧ W (i + 1) m' H') ∧ ∀ x H', J.yld i H x H' → Step Nx x H') := by
  refine ⟨fun i m H => m = n - i ∧ i ≤ n ∧ Pv i H, ⟨n, rfl, Nat.zero_le _, h0⟩, ?_⟩
  rintro i m H ⟨rfl, hi, pv⟩
  by_cases lt : i < n
  · exact .inr ⟨w.goes i H lt (hG i H hi pv), Pv (i + 1), fun H' q => ⟨n - (i + 1), by omega, rfl, lt, q⟩, fun x H' y => hs i x H H' lt pv (w.yields i H x H' lt (hG i H hi pv) y)⟩
  · have ei : i = n := by omega
    subst ei
    exact .inl ⟨w.stops H (hG i H hi pv), hd H pv⟩
/-- what stands in the new list -/
def Acc (K : PySem.W.Frag) (H : Hp) (D : Addr) (out : List PyData) (H' : Hp) : Prop := H D = none ∧ Ex H H' ∧ ∃ acc, H' D = some (.lst acc) ∧ DpAll K H' acc out
theorem Acc.new {D : Addr} (h : H D = none) : Acc K H D [] (upd H D (.lst [])) := ⟨h, Ex.new h, [], upd_same, .nil⟩
theorem Acc.ex {D : Addr} {out : List PyData} {H1 H2 : Hp} (h : Acc K H D out H1) (e : Ex H1 H2) : Acc K H D out H2 := by
  obtain ⟨h1, h2, acc, h3, h4⟩ := h
  exact ⟨h1, h2.trans e, acc, e _ _ h3, dps_ex e _ _ h4⟩
/-- an item more -/
theorem Acc.put {D : Addr} {out : List PyData} {H1 H2 : Hp} {y : V} {R : Hp → Prop} (h : Acc K H D out H1) (e : Ex H1 H2) (hy : Dp K H2 y d) (nl : noLs out = true) (nd : noL d = true) (hz : out.length < 40000) (k : ∀ H3, Tst H2 H3 → Acc K H D (out ++ [d]) H3 → R H3) :
    ∃ acc, H2 D = some (.lst acc) ∧ acc.length < sizeLine ∧ R (upd H2 D (.lst (acc ++ [y]))) := by
  obtain ⟨h1, h2, acc, h3, h4⟩ := h.ex e
  have u : Tst H2 (upd H2 D (.lst (acc ++ [y]))) := ts_upd h3 rfl
  exact ⟨acc, h3, by rw [dps_len h4]; exact sz_lt (by omega), k _ u ⟨h1, ex_lst h1 h2, _, upd_same, dps_snoc (dps_ts u _ _ nl h4) (dp_ts u _ _ nd hy)⟩⟩
theorem noLs_flat {α β : Type} {f : α → β → PyData} {B : α → List β} : ∀ {A : List α}, (∀ a ∈ A, ∀ b ∈ B a, noL (f a b) = true) → noLs (A.flatMap fun a => (B a).map (f a)) = true
  | [], _ => rfl
  | a :: A, h => by
    rw [List.flatMap_cons]
    exact noLs_app (noLs_map fun b hb => h a List.mem_cons_self b hb) (noLs_flat fun a' ha b hb => h a' (List.mem_cons_of_mem _ ha) b hb)
theorem of_yes {σ : L2.St} {H : Hp} {Q : Bool → Hp → Prop} (h : Q true H) : tYes σ H Q := h
theorem flat_short {α β : Type} {A : List α} {B : α → List β} {f : α → β → PyData} {i k : Nat} {a : α} {b : β} (ha : A[i]? = some a) (hb : (B a)[k]? = some b) :
    (((A.take i).flatMap fun a => (B a).map (f a)) ++ ((B a).take k).map (f a)).length < (A.flatMap fun a => (B a).map (f a)).length := by
  obtain ⟨hi, rfl⟩ := List.getElem?_eq_some_iff.mp ha
  obtain ⟨hk, rfl⟩ := List.getElem?_eq_some_iff.mp hb
  have eA : A = A.take i ++ A[i] :: A.drop (i + 1) := by rw [← List.drop_eq_getElem_cons hi, List.take_append_drop]
  conv => rhs; rw [eA]
  rw [List.flatMap_append, List.flatMap_cons, List.length_append, List.length_append, List.length_append, List.length_map, List.length_map, List.length_take]
  omega
theorem take_snoc {α : Type} {A : List α} {i : Nat} {a : α} (h : A[i]? = some a) : A.take (i + 1) = A.take i ++ [a] := by rw [List.take_add_one, h]; rfl
theorem ed_lc2 {α β : Type} {A : List α} {enc : α → PyData} {B : α → List β} {encB : α → β → PyData} {f : α → β → PyData} {j j1 : Nat} {vs vs1 : List Nat} (h : Ed K tl σ H (.tuple (A.map enc)))
    (hw : ∀ x, wipe ((wipe σ vs).set j (some x)) vs = wipe σ vs) (hw1 : ∀ x y, wipe ((wipe ((wipe σ vs).set j (some x)) vs1).set j1 (some y)) vs1 = wipe ((wipe σ vs).set j (some x)) vs1)
    (hz : (A.flatMap fun a => (B a).map (f a)).length ≤ 40000) (hn : ∀ a ∈ A, ∀ b ∈ B a, noL (f a b) = true) (hnB : ∀ a ∈ A, ∀ b ∈ B a, noL (encB a b) = true)
    (hi : ∀ a ∈ A, ∀ v H1, Ex H H1 → Dp K H1 v (enc a) → Ed K tl1 ((wipe σ vs).set j (some v)) H1 (.tuple ((B a).map (encB a))))
    (he : ∀ a ∈ A, ∀ b ∈ B a, ∀ v u H1, Ex H H1 → Dp K H1 v (enc a) → Dp K H1 u (encB a b) → Ed K te ((wipe ((wipe σ vs).set j (some v)) vs1).set j1 (some u)) H1 (f a b)) :
    Ed K (tLc2 (iTup K tl) (gName j) tYes (iTup K tl1) (gName j1) tYes te vs vs1) σ H (.list (A.flatMap fun a => (B a).map (f a))) := fun H0 e Q q => h H0 e _ fun v H1 e1 hv => by
  obtain ⟨a, xs, rfl, hs, hd⟩ := dp_tup hv
  have hl : xs.length = A.length := by rw [dps_len hd, List.length_map]
  refine ⟨a, rfl, ⟨xs, hs⟩, fun D hD => mkW walk_tup (fun i H' => Acc K H1 D ((A.take i).flatMap fun a => (B a).map (f a)) H') (Acc.new hD) (fun i H' _ c => ex_t c.2.1 hs) (fun i x H2 H3 hi3 c y => ?_) fun H' c => ?_⟩
  · obtain ⟨rfl, hx⟩ := y
    obtain ⟨b, hb, hxb⟩ := dpAll_forall enc hd hx
    have hbm : b ∈ A := List.mem_of_getElem? hb
    have e12 := c.2.1
    refine ⟨hw x, ?_⟩
    refine of_yes ?_
    rw [if_pos rfl]
    refine hi b hbm x H3 ((e.trans e1).trans e12) (dp_ex e12 _ _ hxb) H3 (Ex.refl _) _ fun u H4 e4 hu => ?_
    obtain ⟨a1, ys, rfl, hs1, hd1⟩ := dp_tup hu
    have hl1 : ys.length = (B b).length := by rw [dps_len hd1, List.length_map]
    refine ⟨a1, rfl, ⟨ys, hs1⟩, mkW walk_tup (fun k H' => Acc K H1 D (((A.take i).flatMap fun a => (B a).map (f a)) ++ ((B b).take k).map (f b)) H' ∧ Tst H4 H') ⟨?_, Tst.refl _⟩ (fun k H' _ c' => ts_t c'.2 hs1) (fun k y H5 H6 hk c' y' => ?_) fun H' c' => ?_⟩
    · rw [List.take_zero, List.map_nil, List.append_nil]
      exact c.ex e4
    · obtain ⟨rfl, hy⟩ := y'
      obtain ⟨c', t'⟩ := c'
      obtain ⟨b1, hb1, hyb⟩ := dpAll_forall (encB b) hd1 hy
      have hbm1 : b1 ∈ B b := List.mem_of_getElem? hb1
      have e16 := c'.2.1
      refine ⟨hw1 x y, ?_⟩
      refine of_yes ?_
      rw [if_pos rfl]
      refine he b hbm b1 hbm1 x y H6 ((e.trans e1).trans e16) (dp_ex e16 _ _ hxb) (dp_ts t' _ _ (hnB b hbm b1 hbm1) hyb) H6 (Ex.refl _) _ fun z H7 e7 hz7 => ?_
      refine Acc.put (R := fun H' => Acc K H1 D (((A.take i).flatMap fun a => (B a).map (f a)) ++ ((B b).take (k + 1)).map (f b)) H' ∧ Tst H4 H') c' e7 hz7 ?_ (hn b hbm b1 hbm1) (by have := flat_short (f := f) hb hb1; omega) fun H8 t8 c8 => ⟨?_, t'.trans ((ts_ex e7).trans t8)⟩
      · exact noLs_app (noLs_flat fun a' ha' => hn a' (List.mem_of_mem_take ha')) (noLs_map fun b' hb' => hn b hbm b' (List.mem_of_mem_take hb'))
      · rw [take_snoc hb1, List.map_append, ← List.append_assoc]
        exact c8
    · obtain ⟨c', _⟩ := c'
      rw [hl1, List.take_length] at c'
      rw [take_snoc hb, List.flatMap_append, List.flatMap_singleton]
      exact c'
  · rw [hl, List.take_length] at c
    obtain ⟨_, c2, acc, c3, c4⟩ := c
    exact q _ H' (e1.trans c2) (.lst (sq_of c3) c4)
/-- [e for x in t if ..] in a row: a word of one's own would serve where draws are made; here the dict's -/
theorem go_dcT {A : List Nat} {g : Nat → Int} {j : Nat} {vs : List Nat} (nd : A.Nodup) (h : Ed K tl σ H (natsD A)) (hw : ∀ x, wipe ((wipe σ vs).set j (some x)) vs = wipe σ vs) (hz : A.length ≤ 1000)
    (hk : ∀ x ∈ A, ∀ H1, Ex H H1 → Ed K tk ((wipe σ vs).set j (some (.int (x : Nat)))) H1 (.int (x : Nat))) (hv : ∀ x ∈ A, ∀ H1, Ex H H1 → Ed K tv ((wipe σ vs).set j (some (.int (x : Nat)))) H1 (.int (g x)))
    {Q : VK} (k : ∀ p H1, H p = none → Ex H H1 → H1 p = some (.dK (A.map fun (x : Nat) => ((Sum.inl (x : Int) : Key), V.int (g x)))) → Q (.ref p) H1) : tDc (iTup K tl) (gName j) tYes tk tv vs σ H Q := h H (Ex.refl H) _ fun v H1 e1 hv1 => by
  obtain ⟨a, xs, rfl, hs, hd⟩ := dp_tup hv1
  have hl : xs.length = A.length := by rw [dps_len hd, List.length_map]
  refine ⟨a, rfl, ⟨xs, hs⟩, fun D hD => mkW walk_tup (fun i H' => Ex H1 H' ∧ H' D = some (.dK ((A.take i).map fun (x : Nat) => ((Sum.inl (x : Int) : Key), V.int (g x))))) ⟨Ex.new hD, upd_same⟩ (fun i H' _ c => ex_t c.1 hs) (fun i x H2 H3 hi c y => ?_) fun H' c => ?_⟩
  · obtain ⟨rfl, hx⟩ := y
    obtain ⟨b, hb, hxb⟩ := dpAll_forall natD hd hx
    have hbm : b ∈ A := List.mem_of_getElem? hb
    have ex := dp_int hxb
    subst ex
    obtain ⟨c1, c2⟩ := c
    refine ⟨hw _, ?_⟩
    refine of_yes ?_
    rw [if_pos rfl]
    refine hk b hbm H3 (e1.trans c1) H3 (Ex.refl _) _ fun y H4 e4 hy => ?_
    refine hv b hbm H4 (e1.trans (c1.trans e4)) H4 (Ex.refl _) _ fun z H5 e5 hz5 => ?_
    have ez := dp_int hz5
    subst ez
    have nk : valV ((A.take i).map fun (x : Nat) => ((Sum.inl (x : Int) : Key), V.int (g x))) (Sum.inl (b : Int)) = none := by
      unfold valV
      rw [Option.map_eq_none_iff, List.find?_eq_none]
      intro p hp
      obtain ⟨x, hx', rfl⟩ := List.mem_map.mp hp
      simp only [decide_eq_true_eq]
      intro q
      have q' : x = b := by
        have := Sum.inl.inj q
        omega
      subst q'
      obtain ⟨m, hm, hm2⟩ := List.mem_iff_getElem.mp hx'
      rw [List.length_take] at hm
      rw [List.getElem_take] at hm2
      obtain ⟨hi', hi2⟩ := List.getElem?_eq_some_iff.mp hb
      have := (List.getElem_inj nd).mp (hm2.trans hi2.symm)
      omega
    refine ⟨_, Sum.inl (b : Int), dp_int hy, e5 D _ (e4 D _ c2), ?_, Ex.mut ((c1.trans e4).trans e5) hD, ?_⟩
    · (rw [List.length_map, List.length_take])
      exact sz_lt (by omega)
    · rw [upd_same, putK_new _ nk, take_snoc hb, List.map_append]
      rfl
  · obtain ⟨c1, c2⟩ := c
    rw [hl, List.take_length] at c2
    have hDH : H D = none := fresh_back e1 hD
    exact k D H' hDH (e1.trans c1) c2
theorem val_nats {A : List Nat} {g : Nat → Int} {b : Nat} (hb : b ∈ A) : valV (A.map fun (x : Nat) => ((Sum.inl (x : Int) : Key), V.int (g x))) (Sum.inl (b : Int)) = some (.int (g b)) := by
  induction A with
  | nil => cases hb
  | cons a r ih =>
    rw [List.map_cons]
    by_cases q : a = b
    · subst q
      exact valV_pos rfl
    · rw [valV_neg (fun z => q (by have := Sum.inl.inj z; omega))]
      (rcases List.mem_cons.mp hb with z | z)
      · exact absurd z.symm q
      · exact ih z
end
end K15
namespace K15
open PySem L2 Evl
open PyProof.Rows (itemOrd)
open PySem.W (alike alikeAll dataLt dataLe keyToks keyToksAll AllAlike Sortable AlikeAll)
/-! ### rows and rows of rows as data -/
theorem alike_row (r s : List Int) : alike (rowD r) (rowD s) = true := by
  rw [rowD, rowD, alike]
  exact PySem.W.alike_ints r s
theorem alike_rows : ∀ (t u : List (List Int)), alikeAll (t.map rowD) (u.map rowD) = true
  | [], _ => (by rw [List.map_nil, alikeAll])
  | _ :: _, [] => by
    rw [List.map_nil, List.map_cons, alikeAll]
  | r :: t, s :: u => by
    rw [List.map_cons, List.map_cons, alikeAll, alike_row, alike_rows t u]
    rfl
theorem alike_tab (t u : List (List Int)) : alike (tabD t) (tabD u) = true := by
  rw [tabD, tabD, alike]
  exact alike_rows t u
theorem eqv_ints : ∀ (r s : List Int), PyData.eqvAll (r.map .int) (s.map .int) = decide (r = s)
  | [], [] => (by simp [PyData.eqvAll])
  | [], _ :: _ => (by simp [PyData.eqvAll])
  | _ :: _, [] => (by simp [PyData.eqvAll])
  | a :: r, b :: s => by
    rw [List.map_cons, List.map_cons, PyData.eqvAll, eqv_ints r s, PyData.eqv, Bool.eq_iff_iff]
    simp
theorem eqv_row (r s : List Int) : PyData.eqv (rowD r) (rowD s) = decide (r = s) := by
  rw [rowD, rowD, PyData.eqv]
  exact eqv_ints r s
theorem eqv_rows : ∀ (t u : List (List Int)), PyData.eqvAll (t.map rowD) (u.map rowD) = decide (t = u)
  | [], [] => (by simp [PyData.eqvAll])
  | [], _ :: _ => (by simp [PyData.eqvAll])
  | _ :: _, [] => (by simp [PyData.eqvAll])
  | a :: r, b :: s => by
    rw [List.map_cons, List.map_cons, PyData.eqvAll, eqv_rows r s, eqv_row, Bool.eq_iff_iff]
    simp
theorem eqv_tab (t u : List (List Int)) : PyData.eqv (tabD t) (tabD u) = decide (t = u) := by
  rw [tabD, tabD, PyData.eqv]
  exact eqv_rows t u
theorem shaped_ints : ∀ r : List Int, PyData.canLayAll0 (r.map .int) = true
  | [] => rfl
  | a :: r => by
    rw [List.map_cons, PyData.canLayAll0, shaped_ints r]
    rfl
theorem lay_rows : ∀ t : List (List Int), PyData.canLayAll0 (t.map rowD) = true
  | [] => rfl
  | a :: r => by
    rw [List.map_cons, PyData.canLayAll0, lay_rows r, rowD, PyData.canLay0, shaped_ints]
    rfl
theorem depth_row (r : List Int) : (rowD r).depth = 1 := by
  rw [rowD, PyData.depth, PySem.W.depth_ints]
theorem depth_rows : ∀ t : List (List Int), PyData.depthAll (t.map rowD) ≤ 1
  | [] => (by simp [PyData.depthAll])
  | a :: r => by
    rw [List.map_cons, PyData.depthAll, depth_row]
    have := depth_rows r
    omega
theorem depth_tab (t : List (List Int)) : (tabD t).depth ≤ 2 := by
  rw [tabD, PyData.depth]
  have := depth_rows t
  omega
theorem shaped_row (r : List Int) : SeqAt.shaped (rowD r) = true := by
  rw [SeqAt.shaped, depth_row, rowD, PyData.canLay0, shaped_ints]
  rfl
theorem shaped_lints (r : List Int) : SeqAt.shaped (.list (r.map .int)) = true := by
  rw [SeqAt.shaped, PyData.depth, PySem.W.depth_ints, PyData.canLay0, shaped_ints]
  rfl
theorem shaped_lrows (t : List (List Int)) : SeqAt.shaped (.list (t.map rowD)) = true := by
  have := depth_rows t
  rw [SeqAt.shaped, PyData.depth, PyData.canLay0, lay_rows, decide_eq_true (by omega)]
  rfl
/-! ### the order -/
theorem lt_row_heads {r s : List Int} (hr : r ≠ []) (hs : s ≠ []) (h : r.headD 0 < s.headD 0) : dataLt (rowD s) (rowD r) = false := by
  cases r with
  | nil => exact absurd rfl hr
  | cons a r =>
    cases s with
    | nil => exact absurd rfl hs
    | cons b s =>
      have h' : a < b := h
      rw [rowD, rowD, PySem.W.dataLt_tuple, List.map_cons, List.map_cons, PySem.W.dataLt_cons (by simp [alike]), PyData.eqv, if_neg (by simp; omega), PySem.W.dataLt_int]
      (exact decide_eq_false (by omega))
theorem lt_self (d : PyData) : dataLt d d = false := PyProof.Rows.lex_irrefl _
theorem lt_trans {a b c : PyData} (h1 : dataLt a b = true) (h2 : dataLt b c = true) : dataLt a c = true := PyProof.Rows.lex_trans _ _ _ h1 h2
theorem toks_diff {x y : PyData} (ha : alike x y = true) (h1 : dataLt x y = false) (h2 : dataLt y x = false) : PyData.eqv x y = true := by
  cases e : PyData.eqv x y with
  | true => rfl
  | false =>
    have eq : keyToks x = keyToks y := PyProof.Rows.lex_total _ _ h1 h2
    have q := (PySem.W.toks_eqv x y ha).2 e [] [.inl 0]
    rw [eq, PySem.W.lex_pre, PyProof.Rows.lex_irrefl] at q
    exact absurd q (by decide)
/-- lots with their number ahead -/
def fineD (l : Lots) : PyData := .tuple [.int (0 - (l.length : Int)), tabD l]
theorem alike_fine (l m : Lots) : alike (fineD l) (fineD m) = true := by
  rw [fineD, fineD, alike, alikeAll, alikeAll, alikeAll, alike_tab]
  simp [alike]
theorem eqv_fine {l m : Lots} (h : PyData.eqv (fineD l) (fineD m) = true) : l = m := by
  rw [fineD, fineD, PyData.eqv, PyData.eqvAll, PyData.eqvAll, PyData.eqvAll, eqv_tab] at h
  simp only [Bool.and_eq_true, decide_eq_true_eq, Bool.and_true] at h
  exact h.2
theorem fine_total {l m : Lots} (h1 : dataLt (fineD l) (fineD m) = false) (h2 : dataLt (fineD m) (fineD l) = false) : l = m := eqv_fine (toks_diff (alike_fine l m) h1 h2)
theorem fine_len {l m : Lots} (h : m.length < l.length) : dataLt (fineD l) (fineD m) = true := by
  rw [fineD, fineD, PySem.W.dataLt_pair (by simp [alike]) (alike_tab l m), PyData.eqv, if_neg (by simp; omega), PySem.W.dataLt_int]
  (exact decide_eq_true (by omega))
theorem depth_fine (l : Lots) : (fineD l).depth ≤ 3 := by
  rw [fineD, PyData.depth, PyData.depthAll, PyData.depthAll, PyData.depthAll, PyData.depth]
  have := depth_tab l
  omega
theorem noL_fine (l : Lots) : noL (fineD l) = true := by
  rw [fineD, noL, noLs, noLs, noL_tab]
  rfl
/-- the sorted row -/
def sortF (A : List Lots) : List Lots := A.mergeSort fun l m => !dataLt (fineD m) (fineD l)
theorem le_trans' (a b c : PyData) (h1 : dataLt b a = false) (h2 : dataLt c b = false) : dataLt c a = false := by
  cases e : dataLt c a with
  | false => rfl
  | true =>
    rcases PyProof.Rows.lex_negTrans (O := itemOrd) (keyToks c) (keyToks b) (keyToks a) e with q | q
    · rw [show dataLt c b = true from q] at h2
      cases h2
    · rw [show dataLt b a = true from q] at h1
      cases h1
theorem sortF_perm (A : List Lots) : (sortF A).Perm A := List.mergeSort_perm _ _
theorem lt_asymm {a b : PyData} (h : dataLt a b = true) : dataLt b a = false := by
  cases e : dataLt b a with
  | false => rfl
  | true => exact (lt_trans h e).symm.trans (lt_self a)
theorem sortF_sorted (A : List Lots) : (sortF A).Pairwise fun l m => dataLt (fineD m) (fineD l) = false := by
  have q := List.pairwise_mergeSort (le := fun l m => !dataLt (fineD m) (fineD l)) (fun a b c h1 h2 => by
    rw [Bool.not_eq_true'] at *
    exact le_trans' _ _ _ h1 h2) (fun a b => by
    cases e : dataLt (fineD b) (fineD a) with
    | false => simp
    | true => simp [lt_asymm e]) A
  exact q.imp fun h => by simpa using h
theorem sort_map (A : List Lots) : (A.map fineD).mergeSort (dataLe false id) = (sortF A).map fineD := by
  unfold sortF
  rw [List.map_mergeSort]
  intro a _ b _
  rfl
theorem minD_min : ∀ (xs : List PyData) (x : PyData), PySem.W.minD x xs ∈ x :: xs ∧ ∀ y ∈ x :: xs, dataLt y (PySem.W.minD x xs) = false
  | [], x => ⟨List.mem_cons_self, fun y hy => by
    rw [List.mem_singleton] at hy
    rw [hy]
    exact lt_self x⟩
  | z :: xs, x => by
    show PySem.W.minD (if dataLt z x = true then z else x) xs ∈ x :: z :: xs ∧ ∀ y ∈ x :: z :: xs, dataLt y (PySem.W.minD (if dataLt z x = true then z else x) xs) = false
    obtain ⟨m1, m2⟩ := minD_min xs (if dataLt z x = true then z else x)
    have hb := m2 _ List.mem_cons_self
    cases c : dataLt z x with
    | true =>
      rw [c, if_pos rfl] at m1 m2 hb
      rw [if_pos rfl]
      refine ⟨?_, fun y hy => ?_⟩
      · rcases List.mem_cons.mp m1 with q | q
        · rw [q]
          exact List.mem_cons_of_mem _ List.mem_cons_self
        · exact List.mem_cons_of_mem _ (List.mem_cons_of_mem _ q)
      · rcases List.mem_cons.mp hy with q | q
        · rw [q]
          exact le_trans' _ z _ hb (lt_asymm c)
        · exact m2 y q
    | false =>
      rw [c, if_neg (by decide)] at m1 m2 hb
      rw [if_neg (by decide)]
      refine ⟨?_, fun y hy => ?_⟩
      · rcases List.mem_cons.mp m1 with q | q
        · rw [q]
          exact List.mem_cons_self
        · exact List.mem_cons_of_mem _ (List.mem_cons_of_mem _ q)
      · rcases List.mem_cons.mp hy with q | q
        · rw [q]
          exact hb
        · (rcases List.mem_cons.mp q with q | q)
          · rw [q]
            exact le_trans' _ x _ hb c
          · exact m2 y (List.mem_cons_of_mem _ q)
end K15
namespace K15
open PySem L2 Evl PySem.Calls PyProof.Rows
/-- two lists, frozen or not: a new list -/
def rCatL (K : PySem.W.Frag) : R2 := fun x y H Q => ∃ l b xs zs, x = .ref l ∧ y = .ref b ∧ SqL K H l xs ∧ SqL K H b zs ∧ xs.length + zs.length ≤ sizeLine ∧ ∀ p, H p = none → Q (.ref p) (upd H p (.lst (xs ++ zs)))
theorem kCatL {X : Cx} {K : PySem.W.Frag} (hK : X.K = K) : OpR X (binaryOp .Add) (rCatL K) := by
  subst hK
  (intro pins s σ H x y v u Q I rx ry h)
  obtain ⟨l, b, xs, zs, rfl, rfl, h1, h2, hz, q⟩ := h
  cases rx
  cases ry
  obtain ⟨i1, r1, p1, _⟩ := I.list h1
  obtain ⟨i2, r2, p2, _⟩ := I.list h2
  obtain ⟨⟨c1, d1, u1, s1⟩, o1, k1, n1, w1⟩ := id p1.isList
  obtain ⟨⟨c2, d2, u2, s2⟩, o2, k2, n2, w2⟩ := id p2.isList
  simp only at k1 w1 k2 w2
  subst k1 w1 k2 w2
  have sz : i1.toArray.size + i2.toArray.size ≤ sizeLine := by
    (rw [List.size_toArray, List.size_toArray, ← r1.length, ← r2.length])
    exact hz
  have ea : i1.toArray ++ i2.toArray = (i1 ++ i2).toArray := by simp
  refine concat_meets ⟨_, o1, rfl⟩ ⟨_, o2, rfl⟩ noFill_list_add seq_list_add PySem.F.slot_list_add PySem.F.entry_list_add (PySem.F.args_list_add_2 _ _) (list_addW l b i1.toArray i2.toArray n1 n2 d1 d2 s1 s2 sz) ⟨o1, o2, ?_⟩
  rw [ea]
  exact ⟨.ref _, _, I.lnew (t' := s.toks) (r1.append r2) (by rw [List.length_append]; exact hz), rfl, q _ I.fresh⟩
section
variable {K : PySem.W.Frag} {σ : L2.St} {H : Hp} {ta tb te tl tl1 tk tv : TE} {d d1 d2 : PyData} {ds es : List PyData} {D : Ends} {tu tz : L2.TS} {t : TA}
theorem ed_catL (ha : Ed K ta σ H (.list ds)) (hb : Ed K tb σ H (.list es)) (hz : ds.length + es.length ≤ 100000) : Ed K (tOp (rCatL K) ta tb) σ H (.list (ds ++ es)) :=
  ed_op ha hb fun x y H1 _ hx hy Q q => by
    obtain ⟨a, vs, rfl, hs, hd⟩ := dp_lst hx
    obtain ⟨b, ws, rfl, hs2, hd2⟩ := dp_lst hy
    refine ⟨a, b, vs, ws, rfl, rfl, hs, hs2, sz_of (by rw [dps_len hd, dps_len hd2]; exact hz), fun p hp => q _ _ (Ex.new hp) (.lst (sq_of upd_same) (dps_app (dps_ex (Ex.new hp) _ _ hd) (dps_ex (Ex.new hp) _ _ hd2)))⟩
/-! ### zip of two rows of ints in a comprehension -/
theorem walk_zT {a b : Addr} {xs ys : List V} (h : ys.length ≤ xs.length) : Walk (RZ.ItzT K a b) ys.length (fun H => SqT K H a xs ∧ SqT K H b ys) (YPair (fun i => xs[i]?) fun i => ys[i]?) where
  goes := fun i H hi g => ⟨xs, ys, xs[i]'(by omega), ys[i], g.1, g.2, List.getElem?_eq_getElem (by omega), List.getElem?_eq_getElem hi⟩
  stops := fun H g => ⟨xs, ys, g.1, g.2, .inr (Nat.le_refl _)⟩
  yields := fun i H v H' hi g y => by
    obtain ⟨T, x, y', e1, e2, e3, f1, f2⟩ := y
    exact ⟨T, x, y', e1, e2, e3, f1 xs g.1, f2 ys g.2⟩
theorem ed_lcZ {as bs : List Int} {f : Int → Int → PyData} {i j : Nat} {vs : List Nat} (hl : bs.length ≤ as.length) (hz : bs.length ≤ 40000) (h : EdA K t σ H [rowD as, rowD bs]) (hw : ∀ x y, wipe (((wipe σ vs).set i (some x)).set j (some y)) vs = wipe σ vs)
    (hn : ∀ a b, noL (f a b) = true) (he : ∀ (k : Nat) (a b : Int), as[k]? = some a → bs[k]? = some b → ∀ H1, Ex H H1 → Ed K te (((wipe σ vs).set i (some (.int a))).set j (some (.int b))) H1 (f a b)) :
    Ed K (tLc (RZ.iZipA K t) (gTup K 2 (gCons (gName i) (gCons (gName j) gNil))) tYes te vs) σ H (.list ((as.zip bs).map fun p => f p.1 p.2)) := fun H0 e Q q => h H0 e _ fun vs' H1 e1 hv => by
  obtain ⟨v1, v2, rfl, h1, h2⟩ := dps_2 hv
  obtain ⟨a, xs, rfl, hs1, hd1⟩ := dp_tup h1
  obtain ⟨b, ys, rfl, hs2, hd2⟩ := dp_tup h2
  have ex := dps_ints hd1
  have ey := dps_ints hd2
  have lx : xs.length = as.length := by rw [ex, List.length_map]
  have ly : ys.length = bs.length := by rw [ey, List.length_map]
  have lz : (as.zip bs).length = bs.length := by rw [List.length_zip]; omega
  refine ⟨a, b, xs, ys, rfl, .inr ⟨hs1, hs2, fun Dl hD => mkW (walk_zT (by omega)) (fun k H' => Acc K H1 Dl (((as.zip bs).take k).map fun p => f p.1 p.2) H') (Acc.new hD) (fun i H' _ c => ⟨ex_t c.2.1 hs1, ex_t c.2.1 hs2⟩) (fun k x H2 H3 hk c y => ?_) fun H' c => ?_⟩⟩
  · obtain ⟨T, x1, y1, rfl, hT, rfl, hx, hy⟩ := y
    have hx : xs[k]? = some x1 := hx
    have hy : ys[k]? = some y1 := hy
    rw [ex, List.getElem?_map, Option.map_eq_some_iff] at hx
    rw [ey, List.getElem?_map, Option.map_eq_some_iff] at hy
    obtain ⟨a1, ha1, rfl⟩ := hx
    obtain ⟨b1, hb1, rfl⟩ := hy
    have e3 : Ex H2 (upd H2 T (.tup [.int a1, .int b1])) := Ex.new hT
    have hzk : (as.zip bs)[k]? = some (a1, b1) := by
      rw [List.getElem?_zip_eq_some]
      exact ⟨ha1, hb1⟩
    refine ⟨T, _, rfl, st_of upd_same, rfl, _, [_], rfl, _, [], rfl, rfl, hw _ _, of_yes ?_⟩
    rw [if_pos rfl]
    refine he k a1 b1 ha1 hb1 _ (((e.trans e1).trans c.2.1).trans e3) _ (Ex.refl _) _ fun z H4 e4 hz4 => ?_
    refine Acc.put (R := fun H' => Acc K H1 Dl (((as.zip bs).take (k + 1)).map fun p => f p.1 p.2) H') (c.ex e3) e4 hz4 (noLs_map fun p _ => hn _ _) (hn a1 b1) ?_ fun H8 t8 c8 => ?_
    · (rw [List.length_map, List.length_take])
      omega
    · rw [take_snoc hzk, List.map_append]
      exact c8
  · obtain ⟨c1, c2, acc, c3, c4⟩ := c
    rw [ly, ← lz, List.take_length] at c4
    exact q _ H' (e1.trans c2) (.lst (sq_of c3) c4)
/-! ### the dict of heads -/
theorem go_dc2 {A : List (List Int)} {g : Int → Int} {j j1 : Nat} {vs vs1 : List Nat} (h : Ed K tl σ H (tabD A))
    (hw : ∀ x, wipe ((wipe σ vs).set j (some x)) vs = wipe σ vs) (hw1 : ∀ x y, wipe ((wipe ((wipe σ vs).set j (some x)) vs1).set j1 (some y)) vs1 = wipe ((wipe σ vs).set j (some x)) vs1)
    (hz : A.flatten.length ≤ 1000)
    (hi : ∀ a ∈ A, ∀ v H1, Ex H H1 → Dp K H1 v (rowD a) → Ed K tl1 ((wipe σ vs).set j (some v)) H1 (rowD a))
    (hk : ∀ a ∈ A, ∀ b ∈ a, ∀ v H1, Ex H H1 → Dp K H1 v (rowD a) → Ed K tk ((wipe ((wipe σ vs).set j (some v)) vs1).set j1 (some (.int b))) H1 (.int b))
    (hv : ∀ a ∈ A, ∀ b ∈ a, ∀ v H1, Ex H H1 → Dp K H1 v (rowD a) → Ed K tv ((wipe ((wipe σ vs).set j (some v)) vs1).set j1 (some (.int b))) H1 (.int (g b)))
    {Q : VK} (k : ∀ p kvs H1, Ex H H1 → H1 p = some (.dK kvs) → (∀ a ∈ A.flatten, valV kvs (Sum.inl a) = some (.int (g a))) → Q (.ref p) H1) :
    tDc2 (iTup K tl) (gName j) (iTup K tl1) (gName j1) tk tv vs vs1 σ H Q := h H (Ex.refl H) _ fun v H1 e1 hv1 => by
  obtain ⟨a, xs, rfl, hs, hd⟩ := dp_tup hv1
  have hl : xs.length = A.length := by rw [dps_len hd, List.length_map]
  refine ⟨a, rfl, ⟨xs, hs⟩, fun D hD => mkW walk_tup (fun i H' => Ex H1 H' ∧ ∃ kvs, H' D = some (.dK kvs) ∧ (∀ b ∈ (A.take i).flatten, valV kvs (Sum.inl b) = some (.int (g b))) ∧ kvs.length ≤ (A.take i).flatten.length) ⟨Ex.new hD, [], upd_same, fun b hb => by simp at hb, Nat.zero_le _⟩ (fun i H' _ c => ex_t c.1 hs) (fun i x H2 H3 hi3 c y => ?_) fun H' c => ?_⟩
  · obtain ⟨rfl, hx⟩ := y
    obtain ⟨r, hb, hxb⟩ := dpAll_forall rowD hd hx
    have hbm : r ∈ A := List.mem_of_getElem? hb
    obtain ⟨e12, kvs0, hk0, hf0, hc0⟩ := c
    have lr : r.length ≤ A.flatten.length := (List.sublist_flatten_of_mem hbm).length_le
    have lt : (A.take i).flatten.length ≤ A.flatten.length := by
      conv => rhs; rw [← List.take_append_drop i A]
      rw [List.flatten_append, List.length_append]
      omega
    refine ⟨hw x, ?_⟩
    refine hi r hbm x H3 (e1.trans e12) (dp_ex e12 _ _ hxb) H3 (Ex.refl _) _ fun u H4 e4 hu => ?_
    obtain ⟨a1, ys, rfl, hs1, hd1⟩ := dp_tup hu
    have ey := dps_ints hd1
    have hl1 : ys.length = r.length := by rw [ey, List.length_map]
    refine ⟨a1, rfl, ⟨ys, hs1⟩, mkW walk_tup (fun k H' => Ex H1 H' ∧ Tst H4 H' ∧ ∃ kvs, H' D = some (.dK kvs) ∧ (∀ b ∈ (A.take i).flatten ++ r.take k, valV kvs (Sum.inl b) = some (.int (g b))) ∧ kvs.length ≤ ((A.take i).flatten ++ r.take k).length) ⟨e12.trans e4, Tst.refl _, kvs0, e4 _ _ hk0, by rw [List.take_zero, List.append_nil]; exact hf0, by rw [List.take_zero, List.append_nil]; exact hc0⟩ (fun k H' _ c' => ts_t c'.2.1 hs1) (fun k y H5 H6 hk6 c' y' => ?_) fun H' c' => ?_⟩
    · obtain ⟨rfl, hy⟩ := y'
      obtain ⟨e16, t', kvs, hkv, hf, hc⟩ := c'
      rw [ey, List.getElem?_map, Option.map_eq_some_iff] at hy
      obtain ⟨b1, hb1, rfl⟩ := hy
      have hbm1 : b1 ∈ r := List.mem_of_getElem? hb1
      refine ⟨hw1 x _, ?_⟩
      refine hk r hbm b1 hbm1 x H6 (e1.trans e16) (dp_ex e16 _ _ hxb) H6 (Ex.refl _) _ fun z H7 e7 hz7 => ?_
      refine hv r hbm b1 hbm1 x H7 (e1.trans (e16.trans e7)) (dp_ex (e16.trans e7) _ _ hxb) H7 (Ex.refl _) _ fun z' H8 e8 hz8 => ?_
      have ez := dp_int hz7
      have ez' := dp_int hz8
      subst ez ez'
      have h8 := e8 _ _ (e7 _ _ hkv)
      refine ⟨kvs, Sum.inl b1, rfl, h8, sz_lt ?_, Ex.mut ((e16.trans e7).trans e8) hD, (t'.trans ((ts_ex e7).trans (ts_ex e8))).trans (ts_upd h8 rfl), _, upd_same, fun b hb' => ?_, ?_⟩
      · rw [List.length_append, List.length_take] at hc
        omega
      · rw [valV_put]
        by_cases c : (Sum.inl b : Key) = Sum.inl b1
        · rw [if_pos c, Sum.inl.inj c]
        · rw [if_neg c]
          rw [take_snoc hb1, ← List.append_assoc, List.mem_append, List.mem_singleton] at hb'
          rcases hb' with q | q
          · exact hf b q
          · exact absurd (congrArg Sum.inl q) c
      · have := length_putK kvs (Sum.inl b1) (V.int (g b1))
        rw [take_snoc hb1, ← List.append_assoc, List.length_append, List.length_singleton]
        omega
    · obtain ⟨e16, _, kvs, hkv, hf, hc⟩ := c'
      rw [hl1, List.take_length] at hf hc
      refine ⟨e16, kvs, hkv, ?_, ?_⟩
      · rw [take_snoc hb, List.flatten_append, List.flatten_singleton]
        exact hf
      · rw [take_snoc hb, List.flatten_append, List.flatten_singleton]
        exact hc
  · obtain ⟨c2, kvs, hkv, hf, hc⟩ := c
    rw [hl, List.take_length] at hf
    exact k D kvs H' (e1.trans c2) hkv hf
end
end K15
namespace K15
open PySem L2 Evl
section
variable {P : Program} {w : World} {K : PySem.W.Frag} {mg : Str → Option Value} {base : Heap} {f : Addr} {fd : FuncData} {k : Nat}
theorem sc_is_from : FnScope ["value", "least", "most"] ["value", "least", "most"] (defScope (top 8)) := ⟨rfl, rfl, rfl, by decide +kernel, rfl, by decide +kernel, by decide +kernel⟩
/-- what is_from does -/
def r_is_from (K : PySem.W.Frag) (w : World) : L2.TS :=
    (tRet (tAndV (tCB (rIsi K) (tCons (tVar 0) (tCons (tC (.ty "int")) tNil))) (tAndV (tNotV (tCB (rIsi K) (tCons (tVar 0) (tCons (tC (.ty "bool")) tNil)))) (tChain rLeI rLeI (tVar 1) (tVar 0) (tVar 2)))))
theorem d_is_from (B : Bi mg) (C : Co mg) {cdv : Value} {A : Around} {outer : List Env} {s : Shared} {H : Hp} {E : XK} (hr : Room k (A.deeper (PyProof.Rows.envOfC "is_from" (defScope (top 8)) s.heap.objs.size f cdv))) :
    PSs (cxOf CX0 P w K mg base ["value", "least", "most"] "is_from" (defScope (top 8)) f cdv A outer s H E).nox (defBody (top 8)) (r_is_from K w) := by
    unfold r_is_from
    exact (pss_one (ps_ret (pe_and (xIsi (rK K) B.isinstance B.int PyProof.Rows.boot_int (pv 0)) (pe_and (pe_not (xIsi (rK K) B.isinstance B.bool PyProof.Rows.boot_bool (pv 0))) (pe_one (pe_chain op_le op_le (pv 1) (pv 0) (pv 2)))))))
theorem sc_is_table : FnScope ["value", "row", "answer"] ["value"] (defScope (top 9)) := ⟨rfl, rfl, rfl, by decide +kernel, rfl, by decide +kernel, by decide +kernel⟩
/-- what is_table does -/
def r_is_table (K : PySem.W.Frag) (w : World) (s_is_from : Sp) : L2.TS :=
    (tSeq (tIfS (tOr (tNot (tB (tCB (rIsi K) (tCons (tVar 0) (tCons (tC (.ty "tuple")) tNil))))) (tNot (tTest (tChain rLeI rLeI (tC (.int 1)) (tCB (rLenS K) (tCons (tVar 0) tNil)) (tC (.int 6)))))) (tRet (tC (.bl false))) tNext)
    (tSeq (tIfS (tNot (tB (tCB (rAll K) (tCons (tLc (iTup K (tVar 0)) (gName 1) tYes (tAndV (tCB (rIsi K) (tCons (tVar 1) (tCons (tC (.ty "tuple")) tNil))) (tChain rLeI rLeI (tC (.int 1)) (tCB (rLenS K) (tCons (tVar 1) tNil)) (tC (.int 6)))) [1]) tNil)))) (tRet (tC (.bl false))) tNext)
    (tSeq (tIfS (tNot (tB (tCB (rAll K) (tCons (tLc (iTup K (tVar 0)) (gName 1) tYes (tOp rEq (tCB (rLenS K) (tCons (tVar 1) tNil)) (tCB (rLenS K) (tCons (tOp (rIxT K) (tVar 0) (tC (.int 0))) tNil))) [1]) tNil)))) (tRet (tC (.bl false))) tNext)
    (tRet (tCB (rAll K) (tCons (tLc2 (iTup K (tVar 0)) (gName 1) tYes (iTup K (tVar 1)) (gName 2) tYes (tCall s_is_from [] E0 (tCons (tVar 2) (tCons (tC (.int 0)) (tCons (tC (.int 99)) tNil)))) [1, 2] [2]) tNil))))))
theorem d_is_table (B : Bi mg) (C : Co mg) (s_is_from : Sp) (G_is_from : Fn P w K mg base k "is_from" ["value", "least", "most"] s_is_from) {cdv : Value} {A : Around} {outer : List Env} {s : Shared} {H : Hp} {E : XK} (hr : Room k (A.deeper (PyProof.Rows.envOfC "is_table" (defScope (top 9)) s.heap.objs.size f cdv))) :
    PSs (cxOf CX0 P w K mg base ["value", "row", "answer"] "is_table" (defScope (top 9)) f cdv A outer s H E).nox (defBody (top 9)) (r_is_table K w s_is_from) := by
    unfold r_is_table
    exact (pss_cons (ps_if (PW.pt (pw_or (pt_not (pt_val (xIsi (rK K) B.isinstance B.tuple PyProof.Rows.boot_tuple (pv 0)))) (pw_or1 (pt_not (pt_chain op_le op_le pe_int (xLen (rK K) B.len (pv 0)) (xConst C.MOST_THINGS)))))) (pss_one (ps_ret pe_bl)) pss_nil)
    (pss_cons (ps_if (pt_not (pt_val (xAll (rK K) rfl B.all (pe_lc (own := [("row", 1)]) (g := (gName 1)) (tt := tYes) (te := (tAndV (tCB (rIsi K) (tCons (tVar 1) (tCons (tC (.ty "tuple")) tNil))) (tChain rLeI rLeI (tC (.int 1)) (tCB (rLenS K) (tCons (tVar 1) tNil)) (tC (.int 6))))) rfl sc_is_table.nd (kPiT (rK K) (pv 0)) (blkOk_by (by kernel_rfl)) (fun _ _ _ _ _ => by exact (pg_name (i := 1) sc_is_table.nd rfl (by first | exact Or.inl rfl | exact Or.inr rfl))) (fun _ _ _ _ _ => by exact pts_nil) (fun _ _ _ _ _ => by exact (pe_and (xIsi (rK K) B.isinstance B.tuple PyProof.Rows.boot_tuple (pv 1)) (pe_one (pe_chain op_le op_le pe_int (xLen (rK K) B.len (pv 1)) (xConst C.MOST_THINGS))))))))) (pss_one (ps_ret pe_bl)) pss_nil)
    (pss_cons (ps_if (pt_not (pt_val (xAll (rK K) rfl B.all (pe_lc (own := [("row", 1)]) (g := (gName 1)) (tt := tYes) (te := (tOp rEq (tCB (rLenS K) (tCons (tVar 1) tNil)) (tCB (rLenS K) (tCons (tOp (rIxT K) (tVar 0) (tC (.int 0))) tNil)))) rfl sc_is_table.nd (kPiT (rK K) (pv 0)) (blkOk_by (by kernel_rfl)) (fun _ _ _ _ _ => by exact (pg_name (i := 1) sc_is_table.nd rfl (by first | exact Or.inl rfl | exact Or.inr rfl))) (fun _ _ _ _ _ => by exact pts_nil) (fun _ _ _ _ _ => by exact (pe_cmpR op_eq (xLen (rK K) B.len (pv 1)) (xLen (rK K) B.len (xT (rK K) (pv 0) pe_int)) (nomark _))))))) (pss_one (ps_ret pe_bl)) pss_nil)
    (pss_one (ps_ret (xAll (rK K) rfl B.all (pe_lc2 (own := [("row", 1), ("answer", 2)]) (vs1 := [2]) (g := (gName 1)) (g1 := (gName 2)) (tt := tYes) (tt1 := tYes) (wi1 := (iTup K (tVar 1))) (te := (tCall s_is_from [] E0 (tCons (tVar 2) (tCons (tC (.int 0)) (tCons (tC (.int 99)) tNil))))) rfl sc_is_table.nd (kPiT (rK K) (pv 0)) (blkOk_by (by kernel_rfl)) (by decide) (fun _ _ _ _ _ => by exact (pg_name (i := 1) sc_is_table.nd rfl (by first | exact Or.inl rfl | exact Or.inr rfl))) (fun _ _ _ _ _ => by exact pts_nil) (fun _ _ _ _ _ => by exact (kPiT (rK K) (pv 1))) (fun _ _ _ _ _ => by exact (pg_name (i := 2) sc_is_table.nd rfl (by first | exact Or.inl rfl | exact Or.inr rfl))) (fun _ _ _ _ _ => by exact pts_nil) (fun _ _ _ _ _ => by exact (xCall G_is_from hr (pa_cons (pv 2) (pa_cons pe_int (pa_cons (xConst C.MOST_ANSWER) pa_nil))))))))))))
theorem sc_need_table : FnScope ["value"] ["value"] (defScope (top 10)) := ⟨rfl, rfl, rfl, by decide +kernel, rfl, by decide +kernel, by decide +kernel⟩
/-- what need_table does -/
def r_need_table (K : PySem.W.Frag) (w : World) (s_is_table : Sp) : L2.TS :=
    (tIfS (tNot (tB (tCall s_is_table [] E0 (tCons (tVar 0) tNil)))) tNever tNext)
theorem d_need_table (B : Bi mg) (C : Co mg) (s_is_table : Sp) (G_is_table : Fn P w K mg base k "is_table" ["value"] s_is_table) {cdv : Value} {A : Around} {outer : List Env} {s : Shared} {H : Hp} {E : XK} (hr : Room k (A.deeper (PyProof.Rows.envOfC "need_table" (defScope (top 10)) s.heap.objs.size f cdv))) :
    PSs (cxOf CX0 P w K mg base ["value"] "need_table" (defScope (top 10)) f cdv A outer s H E).nox (defBody (top 10)) (r_need_table K w s_is_table) := by
    unfold r_need_table
    exact (pss_one (ps_if (pt_not (pt_val (xCall G_is_table hr (pa_cons (pv 0) pa_nil)))) (pss_one ps_never) pss_nil))
theorem sc_answers_in : FnScope ["table", "row", "answer"] ["table"] (defScope (top 11)) := ⟨rfl, rfl, rfl, by decide +kernel, rfl, by decide +kernel, by decide +kernel⟩
/-- what answers_in does -/
def r_answers_in (K : PySem.W.Frag) (w : World) (s_need_table : Sp) : L2.TS :=
    (tSeq (tDrop (tCall s_need_table [] E0 (tCons (tVar 0) tNil)))
    (tRet (tCB (rTupS K) (tCons (tSetS K w false (tLc2 (iTup K (tVar 0)) (gName 1) tYes (iTup K (tVar 1)) (gName 2) tYes (tVar 2) [1, 2] [2])) tNil))))
theorem d_answers_in (B : Bi mg) (C : Co mg) (s_need_table : Sp) (G_need_table : Fn P w K mg base k "need_table" ["value"] s_need_table) {cdv : Value} {A : Around} {outer : List Env} {s : Shared} {H : Hp} {E : XK} (hr : Room k (A.deeper (PyProof.Rows.envOfC "answers_in" (defScope (top 11)) s.heap.objs.size f cdv))) :
    PSs (cxOf CX0 P w K mg base ["table", "row", "answer"] "answers_in" (defScope (top 11)) f cdv A outer s H E).nox (defBody (top 11)) (r_answers_in K w s_need_table) := by
    unfold r_answers_in
    exact (pss_cons (ps_expr (xCall G_need_table hr (pa_cons (pv 0) pa_nil)))
    (pss_one (ps_ret (xTup (rK K) B.tuple (xSetS (rK K) (rW w) false rfl B.sorted B.set (pe_lc2 (own := [("row", 1), ("answer", 2)]) (vs1 := [2]) (g := (gName 1)) (g1 := (gName 2)) (tt := tYes) (tt1 := tYes) (wi1 := (iTup K (tVar 1))) (te := (tVar 2)) rfl sc_answers_in.nd (kPiT (rK K) (pv 0)) (blkOk_by (by kernel_rfl)) (by decide) (fun _ _ _ _ _ => by exact (pg_name (i := 1) sc_answers_in.nd rfl (by first | exact Or.inl rfl | exact Or.inr rfl))) (fun _ _ _ _ _ => by exact pts_nil) (fun _ _ _ _ _ => by exact (kPiT (rK K) (pv 1))) (fun _ _ _ _ _ => by exact (pg_name (i := 2) sc_answers_in.nd rfl (by first | exact Or.inl rfl | exact Or.inr rfl))) (fun _ _ _ _ _ => by exact pts_nil) (fun _ _ _ _ _ => by exact (pv 2))))))))
theorem sc_turned_table : FnScope ["table", "y", "row"] ["table"] (defScope (top 12)) := ⟨rfl, rfl, rfl, by decide +kernel, rfl, by decide +kernel, by decide +kernel⟩
/-- what turned_table does -/
def r_turned_table (K : PySem.W.Frag) (w : World) : L2.TS :=
    (tRet (tCB (rTupS K) (tCons (tLc (iRng1 (tCons (tCB (rLenS K) (tCons (tOp (rIxT K) (tVar 0) (tC (.int 0))) tNil)) tNil)) (gName 1) tYes (tCB (rTupS K) (tCons (tLc (iTup K (tVar 0)) (gName 2) tYes (tOp (rIxT K) (tVar 2) (tVar 1)) [2]) tNil)) [1]) tNil)))
theorem d_turned_table (B : Bi mg) (C : Co mg) {cdv : Value} {A : Around} {outer : List Env} {s : Shared} {H : Hp} {E : XK} (hr : Room k (A.deeper (PyProof.Rows.envOfC "turned_table" (defScope (top 12)) s.heap.objs.size f cdv))) :
    PSs (cxOf CX0 P w K mg base ["table", "y", "row"] "turned_table" (defScope (top 12)) f cdv A outer s H E).nox (defBody (top 12)) (r_turned_table K w) := by
    unfold r_turned_table
    exact (pss_one (ps_ret (xTup (rK K) B.tuple (pe_lc (own := [("y", 1)]) (g := (gName 1)) (tt := tYes) (te := (tCB (rTupS K) (tCons (tLc (iTup K (tVar 0)) (gName 2) tYes (tOp (rIxT K) (tVar 2) (tVar 1)) [2]) tNil))) rfl sc_turned_table.nd (pi_range1 rfl B.range (pa_cons (xLen (rK K) B.len (xT (rK K) (pv 0) pe_int)) pa_nil)) (blkOk_by (by kernel_rfl)) (fun _ _ _ _ _ => by exact (pg_name (i := 1) sc_turned_table.nd rfl (by first | exact Or.inl rfl | exact Or.inr rfl))) (fun _ _ _ _ _ => by exact pts_nil) (fun _ _ _ _ _ => by exact (xTup (rK K) B.tuple (pe_lc (own := [("row", 2)]) (g := (gName 2)) (tt := tYes) (te := (tOp (rIxT K) (tVar 2) (tVar 1))) rfl sc_turned_table.nd (kPiT (rK K) (pv 0)) (blkOk_by (by kernel_rfl)) (fun _ _ _ _ _ => by exact (pg_name (i := 2) sc_turned_table.nd rfl (by first | exact Or.inl rfl | exact Or.inr rfl))) (fun _ _ _ _ _ => by exact pts_nil) (fun _ _ _ _ _ => by exact (xT (rK K) (pv 2) (pv 1))))))))))
theorem sc_whole : FnScope ["table"] ["table"] (defScope (top 13)) := ⟨rfl, rfl, rfl, by decide +kernel, rfl, by decide +kernel, by decide +kernel⟩
/-- what whole does -/
def r_whole (K : PySem.W.Frag) (w : World) : L2.TS :=
    (tRet (tTup (tCons (tTupRg (tRg1 (tCB (rLenS K) (tCons (tVar 0) tNil)))) (tCons (tTupRg (tRg1 (tCB (rLenS K) (tCons (tOp (rIxT K) (tVar 0) (tC (.int 0))) tNil)))) tNil))))
theorem d_whole (B : Bi mg) (C : Co mg) {cdv : Value} {A : Around} {outer : List Env} {s : Shared} {H : Hp} {E : XK} (hr : Room k (A.deeper (PyProof.Rows.envOfC "whole" (defScope (top 13)) s.heap.objs.size f cdv))) :
    PSs (cxOf CX0 P w K mg base ["table"] "whole" (defScope (top 13)) f cdv A outer s H E).nox (defBody (top 13)) (r_whole K w) := by
    unfold r_whole
    exact (pss_one (ps_ret (pe_tup (pa_cons (pe_tupRg rfl rfl B.tuple (prg_1 rfl B.range (xLen (rK K) B.len (pv 0)))) (pa_cons (pe_tupRg rfl rfl B.tuple (prg_1 rfl B.range (xLen (rK K) B.len (xT (rK K) (pv 0) pe_int)))) pa_nil)))))
theorem sc_is_lot : FnScope ["value", "most", "one", "other"] ["value", "most"] (defScope (top 14)) := ⟨rfl, rfl, rfl, by decide +kernel, rfl, by decide +kernel, by decide +kernel⟩
/-- what is_lot does -/
def r_is_lot (K : PySem.W.Frag) (w : World) (s_is_from : Sp) : L2.TS :=
    (tSeq (tIfS (tOr (tNot (tB (tCB (rIsi K) (tCons (tVar 0) (tCons (tC (.ty "tuple")) tNil))))) (tOr (tTest (tOp (rEqD K) (tVar 0) (tTup tNil))) (tNot (tB (tCB (rAll K) (tCons (tLc (iTup K (tVar 0)) (gName 2) tYes (tCall s_is_from [] E0 (tCons (tVar 2) (tCons (tC (.int 0)) (tCons (tOp rSubI (tVar 1) (tC (.int 1))) tNil)))) [2]) tNil)))))) (tRet (tC (.bl false))) tNext)
    (tRet (tCB (rAll K) (tCons (tLc (RZ.iZipA K (tCons (tVar 0) (tCons (tSl (rSlA K) (tVar 0) (tPart (tC (.int 1))) tNoPart) tNil))) (gTup K 2 (gCons (gName 2) (gCons (gName 3) gNil))) tYes (tOp rLtI (tVar 2) (tVar 3)) [2, 3]) tNil))))
theorem d_is_lot (B : Bi mg) (C : Co mg) (s_is_from : Sp) (G_is_from : Fn P w K mg base k "is_from" ["value", "least", "most"] s_is_from) {cdv : Value} {A : Around} {outer : List Env} {s : Shared} {H : Hp} {E : XK} (hr : Room k (A.deeper (PyProof.Rows.envOfC "is_lot" (defScope (top 14)) s.heap.objs.size f cdv))) :
    PSs (cxOf CX0 P w K mg base ["value", "most", "one", "other"] "is_lot" (defScope (top 14)) f cdv A outer s H E).nox (defBody (top 14)) (r_is_lot K w s_is_from) := by
    unfold r_is_lot
    exact (pss_cons (ps_if (PW.pt (pw_or (pt_not (pt_val (xIsi (rK K) B.isinstance B.tuple PyProof.Rows.boot_tuple (pv 0)))) (pw_or (pt_cmpR (kEqD (rK K) hr.units) (pv 0) (pe_tup pa_nil) (nomark _)) (pw_or1 (pt_not (pt_val (xAll (rK K) rfl B.all (pe_lc (own := [("one", 2)]) (g := (gName 2)) (tt := tYes) (te := (tCall s_is_from [] E0 (tCons (tVar 2) (tCons (tC (.int 0)) (tCons (tOp rSubI (tVar 1) (tC (.int 1))) tNil))))) rfl sc_is_lot.nd (kPiT (rK K) (pv 0)) (blkOk_by (by kernel_rfl)) (fun _ _ _ _ _ => by exact (pg_name (i := 2) sc_is_lot.nd rfl (by first | exact Or.inl rfl | exact Or.inr rfl))) (fun _ _ _ _ _ => by exact pts_nil) (fun _ _ _ _ _ => by exact (xCall G_is_from hr (pa_cons (pv 2) (pa_cons pe_int (pa_cons (pe_op op_sub (pv 1) pe_int) pa_nil))))))))))))) (pss_one (ps_ret pe_bl)) pss_nil)
    (pss_one (ps_ret (xAll (rK K) rfl B.all (pe_lc (own := [("one", 2), ("other", 3)]) (g := (gTup K 2 (gCons (gName 2) (gCons (gName 3) gNil)))) (tt := tYes) (te := (tOp rLtI (tVar 2) (tVar 3))) rfl sc_is_lot.nd (kZip (rK K) rfl B.zip (pa_cons (pv 0) (pa_cons (pe_slice (kSlT (rK K)) (pv 0) (po_some pe_int) po_none) pa_nil))) (blkOk_by (by kernel_rfl)) (fun _ _ _ _ _ => by exact (kTupT (rK K) rfl (pgs_cons (pg_name (i := 2) sc_is_lot.nd rfl (by first | exact Or.inl rfl | exact Or.inr rfl)) (pgs_cons (pg_name (i := 3) sc_is_lot.nd rfl (by first | exact Or.inl rfl | exact Or.inr rfl)) pgs_nil)))) (fun _ _ _ _ _ => by exact pts_nil) (fun _ _ _ _ _ => by exact (pe_cmpR op_lt (pv 2) (pv 3) (nomark _))))))))
theorem sc_is_one : FnScope ["table", "rows", "columns", "first", "x", "y"] ["table", "rows", "columns"] (defScope (top 15)) := ⟨rfl, rfl, rfl, by decide +kernel, rfl, by decide +kernel, by decide +kernel⟩
/-- what is_one does -/
def r_is_one (K : PySem.W.Frag) (w : World) : L2.TS :=
    (tSeq (tAsg (tOp (rIxT K) (tOp (rIxT K) (tVar 0) (tOp (rIxT K) (tVar 1) (tC (.int 0)))) (tOp (rIxT K) (tVar 2) (tC (.int 0)))) (gName 3))
    (tRet (tCB (rAll K) (tCons (tLc2 (iTup K (tVar 1)) (gName 4) tYes (iTup K (tVar 2)) (gName 5) tYes (tOp rEq (tOp (rIxT K) (tOp (rIxT K) (tVar 0) (tVar 4)) (tVar 5)) (tVar 3)) [4, 5] [5]) tNil))))
theorem d_is_one (B : Bi mg) (C : Co mg) {cdv : Value} {A : Around} {outer : List Env} {s : Shared} {H : Hp} {E : XK} (hr : Room k (A.deeper (PyProof.Rows.envOfC "is_one" (defScope (top 15)) s.heap.objs.size f cdv))) :
    PSs (cxOf CX0 P w K mg base ["table", "rows", "columns", "first", "x", "y"] "is_one" (defScope (top 15)) f cdv A outer s H E).nox (defBody (top 15)) (r_is_one K w) := by
    unfold r_is_one
    exact (pss_cons (ps_set (i := 3) sc_is_one.nd rfl (by first | exact Or.inl rfl | exact Or.inr rfl) (xT (rK K) (xT (rK K) (pv 0) (xT (rK K) (pv 1) pe_int)) (xT (rK K) (pv 2) pe_int)))
    (pss_one (ps_ret (xAll (rK K) rfl B.all (pe_lc2 (own := [("x", 4), ("y", 5)]) (vs1 := [5]) (g := (gName 4)) (g1 := (gName 5)) (tt := tYes) (tt1 := tYes) (wi1 := (iTup K (tVar 2))) (te := (tOp rEq (tOp (rIxT K) (tOp (rIxT K) (tVar 0) (tVar 4)) (tVar 5)) (tVar 3))) rfl sc_is_one.nd (kPiT (rK K) (pv 1)) (blkOk_by (by kernel_rfl)) (by decide) (fun _ _ _ _ _ => by exact (pg_name (i := 4) sc_is_one.nd rfl (by first | exact Or.inl rfl | exact Or.inr rfl))) (fun _ _ _ _ _ => by exact pts_nil) (fun _ _ _ _ _ => by exact (kPiT (rK K) (pv 2))) (fun _ _ _ _ _ => by exact (pg_name (i := 5) sc_is_one.nd rfl (by first | exact Or.inl rfl | exact Or.inr rfl))) (fun _ _ _ _ _ => by exact pts_nil) (fun _ _ _ _ _ => by exact (pe_cmpR op_eq (xT (rK K) (xT (rK K) (pv 0) (pv 4)) (pv 5)) (pv 3) (nomark _))))))))
theorem sc_are_near : FnScope ["table", "one", "other", "columns", "y"] ["table", "one", "other", "columns"] (defScope (top 16)) := ⟨rfl, rfl, rfl, by decide +kernel, rfl, by decide +kernel, by decide +kernel⟩
/-- what are_near does -/
def r_are_near (K : PySem.W.Frag) (w : World) : L2.TS :=
    (tRet (tCB (rAny K) (tCons (tLc (iTup K (tVar 3)) (gName 4) tYes (tOp rEq (tOp (rIxT K) (tOp (rIxT K) (tVar 0) (tVar 1)) (tVar 4)) (tOp (rIxT K) (tOp (rIxT K) (tVar 0) (tVar 2)) (tVar 4))) [4]) tNil)))
theorem d_are_near (B : Bi mg) (C : Co mg) {cdv : Value} {A : Around} {outer : List Env} {s : Shared} {H : Hp} {E : XK} (hr : Room k (A.deeper (PyProof.Rows.envOfC "are_near" (defScope (top 16)) s.heap.objs.size f cdv))) :
    PSs (cxOf CX0 P w K mg base ["table", "one", "other", "columns", "y"] "are_near" (defScope (top 16)) f cdv A outer s H E).nox (defBody (top 16)) (r_are_near K w) := by
    unfold r_are_near
    exact (pss_one (ps_ret (xAny (rK K) rfl B.any (pe_lc (own := [("y", 4)]) (g := (gName 4)) (tt := tYes) (te := (tOp rEq (tOp (rIxT K) (tOp (rIxT K) (tVar 0) (tVar 1)) (tVar 4)) (tOp (rIxT K) (tOp (rIxT K) (tVar 0) (tVar 2)) (tVar 4)))) rfl sc_are_near.nd (kPiT (rK K) (pv 3)) (blkOk_by (by kernel_rfl)) (fun _ _ _ _ _ => by exact (pg_name (i := 4) sc_are_near.nd rfl (by first | exact Or.inl rfl | exact Or.inr rfl))) (fun _ _ _ _ _ => by exact pts_nil) (fun _ _ _ _ _ => by exact (pe_cmpR op_eq (xT (rK K) (xT (rK K) (pv 0) (pv 1)) (pv 4)) (xT (rK K) (xT (rK K) (pv 0) (pv 2)) (pv 4)) (nomark _)))))))
theorem sc_row_lots : FnScope ["table", "rows", "columns", "heads", "one", "other", "x", "head", "low", "late"] ["table", "rows", "columns"] (defScope (top 17)) := ⟨rfl, rfl, rfl, by decide +kernel, rfl, by decide +kernel, by decide +kernel⟩
/-- what row_lots does -/
def r_row_lots (K : PySem.W.Frag) (w : World) (s_are_near : Sp) : L2.TS :=
    (tSeq (tAsg (tDc (iTup K (tVar 1)) (gName 6) tYes (tVar 6) (tVar 6) [6]) (gName 3))
    (tSeq (tFor (iTup K (tVar 1)) (gName 4) (tFor (iTup K (tVar 1)) (gName 5) (tIfS (tAnd (tTest (tOp rNe (tDGet (tVar 3) (tVar 4)) (tDGet (tVar 3) (tVar 5)))) (tB (tCall s_are_near [] E0 (tCons (tVar 0) (tCons (tVar 4) (tCons (tVar 5) (tCons (tVar 2) tNil))))))) (tSeq (tAsg (tTup (tCons (tCB rMin2 (tCons (tDGet (tVar 3) (tVar 4)) (tCons (tDGet (tVar 3) (tVar 5)) tNil))) (tCons (tCB rMax2 (tCons (tDGet (tVar 3) (tVar 4)) (tCons (tDGet (tVar 3) (tVar 5)) tNil))) tNil))) (gTup K 2 (gCons (gName 8) (gCons (gName 9) gNil))))
    (tAsg (tDc (iTup K (tVar 1)) (gName 6) tYes (tVar 6) (tIf (tTest (tOp rEq (tDGet (tVar 3) (tVar 6)) (tVar 9))) (tVar 8) (tDGet (tVar 3) (tVar 6))) [6]) (gName 3))) tNext)))
    (tRet (tCB (rTupS K) (tCons (tLc (iTup K (tVar 1)) (gName 7) (tTest (tOp rEq (tDGet (tVar 3) (tVar 7)) (tVar 7))) (tCB (rTupS K) (tCons (tLc (iTup K (tVar 1)) (gName 6) (tTest (tOp rEq (tDGet (tVar 3) (tVar 6)) (tVar 7))) (tVar 6) [6]) tNil)) [7]) tNil)))))
theorem d_row_lots (B : Bi mg) (C : Co mg) (s_are_near : Sp) (G_are_near : Fn P w K mg base k "are_near" ["table", "one", "other", "columns"] s_are_near) {cdv : Value} {A : Around} {outer : List Env} {s : Shared} {H : Hp} {E : XK} (hr : Room k (A.deeper (PyProof.Rows.envOfC "row_lots" (defScope (top 17)) s.heap.objs.size f cdv))) :
    PSs (cxOf CX0 P w K mg base ["table", "rows", "columns", "heads", "one", "other", "x", "head", "low", "late"] "row_lots" (defScope (top 17)) f cdv A outer s H E).nox (defBody (top 17)) (r_row_lots K w s_are_near) := by
    unfold r_row_lots
    exact (pss_cons (ps_set (i := 3) sc_row_lots.nd rfl (by first | exact Or.inl rfl | exact Or.inr rfl) (pe_dc (own := [("x", 6)]) (g := (gName 6)) (tt := tYes) (tk := (tVar 6)) (tv := (tVar 6)) rfl sc_row_lots.nd (kPiT (rK K) (pv 1)) (blkOk_by (by kernel_rfl)) (fun _ _ _ _ _ => by exact (pg_name (i := 6) sc_row_lots.nd rfl (by first | exact Or.inl rfl | exact Or.inr rfl))) (fun _ _ _ _ _ => by exact pts_nil) (fun _ _ _ _ _ => by exact (pv 6)) (fun _ _ _ _ _ => by exact (pv 6))))
    (pss_cons (ps_for PassesOwn.never rfl (kPiT (rK K) (pv 1)) (pg_name (i := 4) sc_row_lots.nd rfl (by first | exact Or.inl rfl | exact Or.inr rfl)) (pss_one (ps_for PassesOwn.never rfl (kPiT (rK K) (pv 1)) (pg_name (i := 5) sc_row_lots.nd rfl (by first | exact Or.inl rfl | exact Or.inr rfl)) (pss_one (ps_if (PW.pt (pw_and (pt_cmpR op_ne (pe_dget (hu_of hr) (pv 3) (pv 4) (fun _ _ => rfl)) (pe_dget (hu_of hr) (pv 3) (pv 5) (fun _ _ => rfl)) (nomark _)) (pw_and1 (pt_val (xCall G_are_near hr (pa_cons (pv 0) (pa_cons (pv 4) (pa_cons (pv 5) (pa_cons (pv 2) pa_nil))))))))) (pss_cons (ps_asg (pe_tup (pa_cons (xMin2 rfl B.min (pa_cons (pe_dget (hu_of hr) (pv 3) (pv 4) (fun _ _ => rfl)) (pa_cons (pe_dget (hu_of hr) (pv 3) (pv 5) (fun _ _ => rfl)) pa_nil))) (pa_cons (xMax2 rfl B.max (pa_cons (pe_dget (hu_of hr) (pv 3) (pv 4) (fun _ _ => rfl)) (pa_cons (pe_dget (hu_of hr) (pv 3) (pv 5) (fun _ _ => rfl)) pa_nil))) pa_nil))) (kTupT (rK K) rfl (pgs_cons (pg_name (i := 8) sc_row_lots.nd rfl (by first | exact Or.inl rfl | exact Or.inr rfl)) (pgs_cons (pg_name (i := 9) sc_row_lots.nd rfl (by first | exact Or.inl rfl | exact Or.inr rfl)) pgs_nil))))
    (pss_one (ps_set (i := 3) sc_row_lots.nd rfl (by first | exact Or.inl rfl | exact Or.inr rfl) (pe_dc (own := [("x", 6)]) (g := (gName 6)) (tt := tYes) (tk := (tVar 6)) (tv := (tIf (tTest (tOp rEq (tDGet (tVar 3) (tVar 6)) (tVar 9))) (tVar 8) (tDGet (tVar 3) (tVar 6)))) rfl sc_row_lots.nd (kPiT (rK K) (pv 1)) (blkOk_by (by kernel_rfl)) (fun _ _ _ _ _ => by exact (pg_name (i := 6) sc_row_lots.nd rfl (by first | exact Or.inl rfl | exact Or.inr rfl))) (fun _ _ _ _ _ => by exact pts_nil) (fun _ _ _ _ _ => by exact (pv 6)) (fun _ _ _ _ _ => by exact (pe_ifExp (pt_cmpR op_eq (pe_dget (hu_of hr) (pv 3) (pv 6) (fun _ _ => rfl)) (pv 9) (nomark _)) (pv 8) (pe_dget (hu_of hr) (pv 3) (pv 6) (fun _ _ => rfl)))))))) pss_nil)))))
    (pss_one (ps_ret (xTup (rK K) B.tuple (pe_lc (own := [("head", 7)]) (g := (gName 7)) (tt := (tTest (tOp rEq (tDGet (tVar 3) (tVar 7)) (tVar 7)))) (te := (tCB (rTupS K) (tCons (tLc (iTup K (tVar 1)) (gName 6) (tTest (tOp rEq (tDGet (tVar 3) (tVar 6)) (tVar 7))) (tVar 6) [6]) tNil))) rfl sc_row_lots.nd (kPiT (rK K) (pv 1)) (blkOk_by (by kernel_rfl)) (fun _ _ _ _ _ => by exact (pg_name (i := 7) sc_row_lots.nd rfl (by first | exact Or.inl rfl | exact Or.inr rfl))) (fun _ _ _ _ _ => by exact (pts_one (pt_cmpR op_eq (pe_dget (hu_of hr) (pv 3) (pv 7) (fun _ _ => rfl)) (pv 7) (nomark _)))) (fun _ _ _ _ _ => by exact (xTup (rK K) B.tuple (pe_lc (own := [("x", 6)]) (g := (gName 6)) (tt := (tTest (tOp rEq (tDGet (tVar 3) (tVar 6)) (tVar 7)))) (te := (tVar 6)) rfl sc_row_lots.nd (kPiT (rK K) (pv 1)) (blkOk_by (by kernel_rfl)) (fun _ _ _ _ _ => by exact (pg_name (i := 6) sc_row_lots.nd rfl (by first | exact Or.inl rfl | exact Or.inr rfl))) (fun _ _ _ _ _ => by exact (pts_one (pt_cmpR op_eq (pe_dget (hu_of hr) (pv 3) (pv 6) (fun _ _ => rfl)) (pv 7) (nomark _)))) (fun _ _ _ _ _ => by exact (pv 6)))))))))))
theorem sc_column_lots : FnScope ["table", "rows", "columns"] ["table", "rows", "columns"] (defScope (top 18)) := ⟨rfl, rfl, rfl, by decide +kernel, rfl, by decide +kernel, by decide +kernel⟩
/-- what column_lots does -/
def r_column_lots (K : PySem.W.Frag) (w : World) (s_turned_table : Sp) (s_row_lots : Sp) : L2.TS :=
    (tRet (tCall s_row_lots [] E0 (tCons (tCall s_turned_table [] E0 (tCons (tVar 0) tNil)) (tCons (tVar 2) (tCons (tVar 1) tNil)))))
theorem d_column_lots (B : Bi mg) (C : Co mg) (s_turned_table : Sp) (s_row_lots : Sp) (G_turned_table : Fn P w K mg base k "turned_table" ["table"] s_turned_table) (G_row_lots : Fn P w K mg base k "row_lots" ["table", "rows", "columns"] s_row_lots) {cdv : Value} {A : Around} {outer : List Env} {s : Shared} {H : Hp} {E : XK} (hr : Room k (A.deeper (PyProof.Rows.envOfC "column_lots" (defScope (top 18)) s.heap.objs.size f cdv))) :
    PSs (cxOf CX0 P w K mg base ["table", "rows", "columns"] "column_lots" (defScope (top 18)) f cdv A outer s H E).nox (defBody (top 18)) (r_column_lots K w s_turned_table s_row_lots) := by
    unfold r_column_lots
    exact (pss_one (ps_ret (xCall G_row_lots hr (pa_cons (xCall G_turned_table hr (pa_cons (pv 0) pa_nil)) (pa_cons (pv 2) (pa_cons (pv 1) pa_nil))))))
theorem sc_next_parts : FnScope ["table", "rows", "columns", "lots", "lot"] ["table", "rows", "columns"] (defScope (top 20)) := ⟨rfl, rfl, rfl, by decide +kernel, rfl, by decide +kernel, by decide +kernel⟩
/-- what next_parts does -/
def r_next_parts (K : PySem.W.Frag) (w : World) (s_is_one : Sp) (s_row_lots : Sp) (s_column_lots : Sp) : L2.TS :=
    (tSeq (tIfS (tB (tCall s_is_one [] E0 (tCons (tVar 0) (tCons (tVar 1) (tCons (tVar 2) tNil))))) (tRet (tLst tNil)) tNext)
    (tSeq (tAsg (tCall s_row_lots [] E0 (tCons (tVar 0) (tCons (tVar 1) (tCons (tVar 2) tNil)))) (gName 3))
    (tSeq (tIfS (tTest (tOp rGtI (tCB (rLenS K) (tCons (tVar 3) tNil)) (tC (.int 1)))) (tRet (tLc (iTup K (tVar 3)) (gName 4) tYes (tTup (tCons (tVar 4) (tCons (tVar 2) tNil))) [4])) tNext)
    (tSeq (tAsg (tCall s_column_lots [] E0 (tCons (tVar 0) (tCons (tVar 1) (tCons (tVar 2) tNil)))) (gName 3))
    (tRet (tIf (tTest (tOp rGtI (tCB (rLenS K) (tCons (tVar 3) tNil)) (tC (.int 1)))) (tLc (iTup K (tVar 3)) (gName 4) tYes (tTup (tCons (tVar 1) (tCons (tVar 4) tNil))) [4]) (tC .non)))))))
theorem d_next_parts (B : Bi mg) (C : Co mg) (s_is_one : Sp) (s_row_lots : Sp) (s_column_lots : Sp) (G_is_one : Fn P w K mg base k "is_one" ["table", "rows", "columns"] s_is_one) (G_row_lots : Fn P w K mg base k "row_lots" ["table", "rows", "columns"] s_row_lots) (G_column_lots : Fn P w K mg base k "column_lots" ["table", "rows", "columns"] s_column_lots) {cdv : Value} {A : Around} {outer : List Env} {s : Shared} {H : Hp} {E : XK} (hr : Room k (A.deeper (PyProof.Rows.envOfC "next_parts" (defScope (top 20)) s.heap.objs.size f cdv))) :
    PSs (cxOf CX0 P w K mg base ["table", "rows", "columns", "lots", "lot"] "next_parts" (defScope (top 20)) f cdv A outer s H E).nox (defBody (top 20)) (r_next_parts K w s_is_one s_row_lots s_column_lots) := by
    unfold r_next_parts
    exact (pss_cons (ps_if (pt_val (xCall G_is_one hr (pa_cons (pv 0) (pa_cons (pv 1) (pa_cons (pv 2) pa_nil))))) (pss_one (ps_ret (pe_lst pa_nil))) pss_nil)
    (pss_cons (ps_set (i := 3) sc_next_parts.nd rfl (by first | exact Or.inl rfl | exact Or.inr rfl) (xCall G_row_lots hr (pa_cons (pv 0) (pa_cons (pv 1) (pa_cons (pv 2) pa_nil)))))
    (pss_cons (ps_if (pt_cmpR op_gt (xLen (rK K) B.len (pv 3)) pe_int (nomark _)) (pss_one (ps_ret (pe_lc (own := [("lot", 4)]) (g := (gName 4)) (tt := tYes) (te := (tTup (tCons (tVar 4) (tCons (tVar 2) tNil)))) rfl sc_next_parts.nd (kPiT (rK K) (pv 3)) (blkOk_by (by kernel_rfl)) (fun _ _ _ _ _ => by exact (pg_name (i := 4) sc_next_parts.nd rfl (by first | exact Or.inl rfl | exact Or.inr rfl))) (fun _ _ _ _ _ => by exact pts_nil) (fun _ _ _ _ _ => by exact (pe_tup (pa_cons (pv 4) (pa_cons (pv 2) pa_nil))))))) pss_nil)
    (pss_cons (ps_set (i := 3) sc_next_parts.nd rfl (by first | exact Or.inl rfl | exact Or.inr rfl) (xCall G_column_lots hr (pa_cons (pv 0) (pa_cons (pv 1) (pa_cons (pv 2) pa_nil)))))
    (pss_one (ps_ret (pe_ifExp (pt_cmpR op_gt (xLen (rK K) B.len (pv 3)) pe_int (nomark _)) (pe_lc (own := [("lot", 4)]) (g := (gName 4)) (tt := tYes) (te := (tTup (tCons (tVar 1) (tCons (tVar 4) tNil)))) rfl sc_next_parts.nd (kPiT (rK K) (pv 3)) (blkOk_by (by kernel_rfl)) (fun _ _ _ _ _ => by exact (pg_name (i := 4) sc_next_parts.nd rfl (by first | exact Or.inl rfl | exact Or.inr rfl))) (fun _ _ _ _ _ => by exact pts_nil) (fun _ _ _ _ _ => by exact (pe_tup (pa_cons (pv 1) (pa_cons (pv 4) pa_nil))))) pe_non)))))))
theorem sc_stuck_from : FnScope ["table", "rows", "columns", "later", "part", "found"] ["table", "rows", "columns"] (defScope (top 21)) := ⟨rfl, rfl, rfl, by decide +kernel, rfl, by decide +kernel, by decide +kernel⟩
/-- what stuck_from does -/
def r_stuck_from (K : PySem.W.Frag) (w : World) (s_next_parts : Sp) (s_stuck_from : Sp) : L2.TS :=
    (tSeq (tAsg (tCall s_next_parts [] E0 (tCons (tVar 0) (tCons (tVar 1) (tCons (tVar 2) tNil)))) (gName 3))
    (tSeq (tIfS (tTest (tOp rIsNn (tVar 3) (tC .non))) (tRet (tTup (tCons (tVar 1) (tCons (tVar 2) tNil)))) tNext)
    (tSeq (tFor (iList K (tVar 3)) (gName 4) (tSeq (tAsg (tCall s_stuck_from [] E0 (tCons (tVar 0) (tCons (tOp (rIxT K) (tVar 4) (tC (.int 0))) (tCons (tOp (rIxT K) (tVar 4) (tC (.int 1))) tNil)))) (gName 5))
    (tIfS (tTest (tOp rNotNn (tVar 5) (tC .non))) (tRet (tVar 5)) tNext)))
    (tRet (tC .non)))))
theorem d_stuck_from (B : Bi mg) (C : Co mg) (s_next_parts : Sp) (s_stuck_from : Sp) (G_next_parts : Fn P w K mg base k "next_parts" ["table", "rows", "columns"] s_next_parts) (G_stuck_from : Fn P w K mg base k "stuck_from" ["table", "rows", "columns"] s_stuck_from) {cdv : Value} {A : Around} {outer : List Env} {s : Shared} {H : Hp} {E : XK} (hr : Room k (A.deeper (PyProof.Rows.envOfC "stuck_from" (defScope (top 21)) s.heap.objs.size f cdv))) :
    PSs (cxOf CX0 P w K mg base ["table", "rows", "columns", "later", "part", "found"] "stuck_from" (defScope (top 21)) f cdv A outer s H E).nox (defBody (top 21)) (r_stuck_from K w s_next_parts s_stuck_from) := by
    unfold r_stuck_from
    exact (pss_cons (ps_set (i := 3) sc_stuck_from.nd rfl (by first | exact Or.inl rfl | exact Or.inr rfl) (xCall G_next_parts hr (pa_cons (pv 0) (pa_cons (pv 1) (pa_cons (pv 2) pa_nil)))))
    (pss_cons (ps_if (pt_cmpR op_isN (pv 3) pe_non (nomark _)) (pss_one (ps_ret (pe_tup (pa_cons (pv 1) (pa_cons (pv 2) pa_nil))))) pss_nil)
    (pss_cons (ps_for PassesOwn.never rfl (kPiL (rK K) (pv 3)) (pg_name (i := 4) sc_stuck_from.nd rfl (by first | exact Or.inl rfl | exact Or.inr rfl)) (pss_cons (ps_set (i := 5) sc_stuck_from.nd rfl (by first | exact Or.inl rfl | exact Or.inr rfl) (xCall G_stuck_from hr (pa_cons (pv 0) (pa_cons (xT (rK K) (pv 4) pe_int) (pa_cons (xT (rK K) (pv 4) pe_int) pa_nil)))))
    (pss_one (ps_if (pt_cmpR op_notN (pv 5) pe_non (nomark _)) (pss_one (ps_ret (pv 5))) pss_nil))))
    (pss_one (ps_ret pe_non)))))
theorem sc_is_told : FnScope ["table", "rows", "columns"] ["table"] (defScope (top 22)) := ⟨rfl, rfl, rfl, by decide +kernel, rfl, by decide +kernel, by decide +kernel⟩
/-- what is_told does -/
def r_is_told (K : PySem.W.Frag) (w : World) (s_whole : Sp) (s_stuck_from : Sp) : L2.TS :=
    (tSeq (tAsg (tCall s_whole [] E0 (tCons (tVar 0) tNil)) (gTup K 2 (gCons (gName 1) (gCons (gName 2) gNil))))
    (tRet (tOp rIsNn (tCall s_stuck_from [] E0 (tCons (tVar 0) (tCons (tVar 1) (tCons (tVar 2) tNil)))) (tC .non))))
theorem d_is_told (B : Bi mg) (C : Co mg) (s_whole : Sp) (s_stuck_from : Sp) (G_whole : Fn P w K mg base k "whole" ["table"] s_whole) (G_stuck_from : Fn P w K mg base k "stuck_from" ["table", "rows", "columns"] s_stuck_from) {cdv : Value} {A : Around} {outer : List Env} {s : Shared} {H : Hp} {E : XK} (hr : Room k (A.deeper (PyProof.Rows.envOfC "is_told" (defScope (top 22)) s.heap.objs.size f cdv))) :
    PSs (cxOf CX0 P w K mg base ["table", "rows", "columns"] "is_told" (defScope (top 22)) f cdv A outer s H E).nox (defBody (top 22)) (r_is_told K w s_whole s_stuck_from) := by
    unfold r_is_told
    exact (pss_cons (ps_asg (xCall G_whole hr (pa_cons (pv 0) pa_nil)) (kTupT (rK K) rfl (pgs_cons (pg_name (i := 1) sc_is_told.nd rfl (by first | exact Or.inl rfl | exact Or.inr rfl)) (pgs_cons (pg_name (i := 2) sc_is_told.nd rfl (by first | exact Or.inl rfl | exact Or.inr rfl)) pgs_nil))))
    (pss_one (ps_ret (pe_cmpR op_isN (xCall G_stuck_from hr (pa_cons (pv 0) (pa_cons (pv 1) (pa_cons (pv 2) pa_nil)))) pe_non (nomark _)))))
theorem sc_can_be_told : FnScope ["table"] ["table"] (defScope (top 23)) := ⟨rfl, rfl, rfl, by decide +kernel, rfl, by decide +kernel, by decide +kernel⟩
/-- what can_be_told does -/
def r_can_be_told (K : PySem.W.Frag) (w : World) (s_need_table : Sp) (s_is_told : Sp) : L2.TS :=
    (tSeq (tDrop (tCall s_need_table [] E0 (tCons (tVar 0) tNil)))
    (tRet (tCall s_is_told [] E0 (tCons (tVar 0) tNil))))
theorem d_can_be_told (B : Bi mg) (C : Co mg) (s_need_table : Sp) (s_is_told : Sp) (G_need_table : Fn P w K mg base k "need_table" ["value"] s_need_table) (G_is_told : Fn P w K mg base k "is_told" ["table"] s_is_told) {cdv : Value} {A : Around} {outer : List Env} {s : Shared} {H : Hp} {E : XK} (hr : Room k (A.deeper (PyProof.Rows.envOfC "can_be_told" (defScope (top 23)) s.heap.objs.size f cdv))) :
    PSs (cxOf CX0 P w K mg base ["table"] "can_be_told" (defScope (top 23)) f cdv A outer s H E).nox (defBody (top 23)) (r_can_be_told K w s_need_table s_is_told) := by
    unfold r_can_be_told
    exact (pss_cons (ps_expr (xCall G_need_table hr (pa_cons (pv 0) pa_nil)))
    (pss_one (ps_ret (xCall G_is_told hr (pa_cons (pv 0) pa_nil)))))
end
end K15
namespace K15
open PySem L2 Evl
section
variable {P : Program} {w : World} {K : PySem.W.Frag} {mg : Str → Option Value} {base : Heap} {f : Addr} {fd : FuncData} {k : Nat}
theorem sc_need_lots : FnScope ["table", "value", "lot", "one"] ["table", "value"] (defScope (top 26)) := ⟨rfl, rfl, rfl, by decide +kernel, rfl, by decide +kernel, by decide +kernel⟩
/-- what need_lots does -/
def r_need_lots (K : PySem.W.Frag) (w : World) (s_is_lot : Sp) (s_answers_in : Sp) : L2.TS :=
    (tSeq (tIfS (tOr (tNot (tB (tCB (rIsi K) (tCons (tVar 1) (tCons (tC (.ty "tuple")) tNil))))) (tNot (tB (tCB (rAll K) (tCons (tLc (iTup K (tVar 1)) (gName 2) tYes (tCall s_is_lot [] E0 (tCons (tVar 2) (tCons (tOp rAddI (tC (.int 99)) (tC (.int 1))) tNil))) [2]) tNil))))) tNever tNext)
    (tIfS (tOr (tTest (tOp (rNeD K) (tCB (rListS K) (tCons (tVar 1) tNil)) (tCB (rSortD K true) (tCons (tVar 1) tNil)))) (tTest (tOp (rNeD K) (tCB (rSorted K) (tCons (tLc2 (iTup K (tVar 1)) (gName 2) tYes (iTup K (tVar 2)) (gName 3) tYes (tVar 3) [2, 3] [3]) tNil)) (tCB (rListS K) (tCons (tCall s_answers_in [] E0 (tCons (tVar 0) tNil)) tNil))))) tNever tNext))
theorem d_need_lots (B : Bi mg) (C : Co mg) (s_is_lot : Sp) (s_answers_in : Sp) (G_is_lot : Fn P w K mg base k "is_lot" ["value", "most"] s_is_lot) (G_answers_in : Fn P w K mg base k "answers_in" ["table"] s_answers_in) {cdv : Value} {A : Around} {outer : List Env} {s : Shared} {H : Hp} {E : XK} (hr : Room k (A.deeper (PyProof.Rows.envOfC "need_lots" (defScope (top 26)) s.heap.objs.size f cdv))) :
    PSs (cxOf CX0 P w K mg base ["table", "value", "lot", "one"] "need_lots" (defScope (top 26)) f cdv A outer s H E).nox (defBody (top 26)) (r_need_lots K w s_is_lot s_answers_in) := by
    unfold r_need_lots
    exact (pss_cons (ps_if (PW.pt (pw_or (pt_not (pt_val (xIsi (rK K) B.isinstance B.tuple PyProof.Rows.boot_tuple (pv 1)))) (pw_or1 (pt_not (pt_val (xAll (rK K) rfl B.all (pe_lc (own := [("lot", 2)]) (g := (gName 2)) (tt := tYes) (te := (tCall s_is_lot [] E0 (tCons (tVar 2) (tCons (tOp rAddI (tC (.int 99)) (tC (.int 1))) tNil)))) rfl sc_need_lots.nd (kPiT (rK K) (pv 1)) (blkOk_by (by kernel_rfl)) (fun _ _ _ _ _ => by exact (pg_name (i := 2) sc_need_lots.nd rfl (by first | exact Or.inl rfl | exact Or.inr rfl))) (fun _ _ _ _ _ => by exact pts_nil) (fun _ _ _ _ _ => by exact (xCall G_is_lot hr (pa_cons (pv 2) (pa_cons (pe_op op_add (xConst C.MOST_ANSWER) pe_int) pa_nil))))))))))) (pss_one ps_never) pss_nil)
    (pss_one (ps_if (PW.pt (pw_or (pt_cmpR (kNeD (rK K) hr.units) (xList (rK K) B.list (pv 1)) (xSortD (rK K) true B.sorted hr (pv 1)) (nomark _)) (pw_or1 (pt_cmpR (kNeD (rK K) hr.units) (xSorted (rK K) B.sorted (pe_lc2 (own := [("lot", 2), ("one", 3)]) (vs1 := [3]) (g := (gName 2)) (g1 := (gName 3)) (tt := tYes) (tt1 := tYes) (wi1 := (iTup K (tVar 2))) (te := (tVar 3)) rfl sc_need_lots.nd (kPiT (rK K) (pv 1)) (blkOk_by (by kernel_rfl)) (by decide) (fun _ _ _ _ _ => by exact (pg_name (i := 2) sc_need_lots.nd rfl (by first | exact Or.inl rfl | exact Or.inr rfl))) (fun _ _ _ _ _ => by exact pts_nil) (fun _ _ _ _ _ => by exact (kPiT (rK K) (pv 2))) (fun _ _ _ _ _ => by exact (pg_name (i := 3) sc_need_lots.nd rfl (by first | exact Or.inl rfl | exact Or.inr rfl))) (fun _ _ _ _ _ => by exact pts_nil) (fun _ _ _ _ _ => by exact (pv 3)))) (xList (rK K) B.list (xCall G_answers_in hr (pa_cons (pv 0) pa_nil))) (nomark _))))) (pss_one ps_never) pss_nil)))
theorem sc_blurred_by : FnScope ["table", "lots", "heads", "lot", "one", "row", "answer"] ["table", "lots"] (defScope (top 27)) := ⟨rfl, rfl, rfl, by decide +kernel, rfl, by decide +kernel, by decide +kernel⟩
/-- what blurred_by does -/
def r_blurred_by (K : PySem.W.Frag) (w : World) : L2.TS :=
    (tSeq (tAsg (tDc2 (iTup K (tVar 1)) (gName 3) (iTup K (tVar 3)) (gName 4) (tVar 4) (tOp (rIxT K) (tVar 3) (tC (.int 0))) [3, 4] [4]) (gName 2))
    (tRet (tCB (rTupS K) (tCons (tLc (iTup K (tVar 0)) (gName 5) tYes (tCB (rTupS K) (tCons (tLc (iTup K (tVar 5)) (gName 6) tYes (tDGet (tVar 2) (tVar 6)) [6]) tNil)) [5]) tNil))))
theorem d_blurred_by (B : Bi mg) (C : Co mg) {cdv : Value} {A : Around} {outer : List Env} {s : Shared} {H : Hp} {E : XK} (hr : Room k (A.deeper (PyProof.Rows.envOfC "blurred_by" (defScope (top 27)) s.heap.objs.size f cdv))) :
    PSs (cxOf CX0 P w K mg base ["table", "lots", "heads", "lot", "one", "row", "answer"] "blurred_by" (defScope (top 27)) f cdv A outer s H E).nox (defBody (top 27)) (r_blurred_by K w) := by
    unfold r_blurred_by
    exact (pss_cons (ps_set (i := 2) sc_blurred_by.nd rfl (by first | exact Or.inl rfl | exact Or.inr rfl) (pe_dc2 (own := [("lot", 3), ("one", 4)]) (vs1 := [4]) (g := (gName 3)) (g1 := (gName 4)) (wi1 := (iTup K (tVar 3))) (tk := (tVar 4)) (tv := (tOp (rIxT K) (tVar 3) (tC (.int 0)))) rfl sc_blurred_by.nd (kPiT (rK K) (pv 1)) (blkOk_by (by kernel_rfl)) (by decide) (fun _ _ _ _ _ => by exact (pg_name (i := 3) sc_blurred_by.nd rfl (by first | exact Or.inl rfl | exact Or.inr rfl))) (fun _ _ _ _ _ => by exact (kPiT (rK K) (pv 3))) (fun _ _ _ _ _ => by exact (pg_name (i := 4) sc_blurred_by.nd rfl (by first | exact Or.inl rfl | exact Or.inr rfl))) (fun _ _ _ _ _ => by exact (pv 4)) (fun _ _ _ _ _ => by exact (xT (rK K) (pv 3) pe_int))))
    (pss_one (ps_ret (xTup (rK K) B.tuple (pe_lc (own := [("row", 5)]) (g := (gName 5)) (tt := tYes) (te := (tCB (rTupS K) (tCons (tLc (iTup K (tVar 5)) (gName 6) tYes (tDGet (tVar 2) (tVar 6)) [6]) tNil))) rfl sc_blurred_by.nd (kPiT (rK K) (pv 0)) (blkOk_by (by kernel_rfl)) (fun _ _ _ _ _ => by exact (pg_name (i := 5) sc_blurred_by.nd rfl (by first | exact Or.inl rfl | exact Or.inr rfl))) (fun _ _ _ _ _ => by exact pts_nil) (fun _ _ _ _ _ => by exact (xTup (rK K) B.tuple (pe_lc (own := [("answer", 6)]) (g := (gName 6)) (tt := tYes) (te := (tDGet (tVar 2) (tVar 6))) rfl sc_blurred_by.nd (kPiT (rK K) (pv 5)) (blkOk_by (by kernel_rfl)) (fun _ _ _ _ _ => by exact (pg_name (i := 6) sc_blurred_by.nd rfl (by first | exact Or.inl rfl | exact Or.inr rfl))) (fun _ _ _ _ _ => by exact pts_nil) (fun _ _ _ _ _ => by exact (pe_dget (hu_of hr) (pv 2) (pv 6) (fun _ _ => rfl)))))))))))
theorem sc_blurred : FnScope ["table", "lots"] ["table", "lots"] (defScope (top 28)) := ⟨rfl, rfl, rfl, by decide +kernel, rfl, by decide +kernel, by decide +kernel⟩
/-- what blurred does -/
def r_blurred (K : PySem.W.Frag) (w : World) (s_need_table : Sp) (s_need_lots : Sp) (s_blurred_by : Sp) : L2.TS :=
    (tSeq (tDrop (tCall s_need_table [] E0 (tCons (tVar 0) tNil)))
    (tSeq (tDrop (tCall s_need_lots [] E0 (tCons (tVar 0) (tCons (tVar 1) tNil))))
    (tRet (tCall s_blurred_by [] E0 (tCons (tVar 0) (tCons (tVar 1) tNil))))))
theorem d_blurred (B : Bi mg) (C : Co mg) (s_need_table : Sp) (s_need_lots : Sp) (s_blurred_by : Sp) (G_need_table : Fn P w K mg base k "need_table" ["value"] s_need_table) (G_need_lots : Fn P w K mg base k "need_lots" ["table", "value"] s_need_lots) (G_blurred_by : Fn P w K mg base k "blurred_by" ["table", "lots"] s_blurred_by) {cdv : Value} {A : Around} {outer : List Env} {s : Shared} {H : Hp} {E : XK} (hr : Room k (A.deeper (PyProof.Rows.envOfC "blurred" (defScope (top 28)) s.heap.objs.size f cdv))) :
    PSs (cxOf CX0 P w K mg base ["table", "lots"] "blurred" (defScope (top 28)) f cdv A outer s H E).nox (defBody (top 28)) (r_blurred K w s_need_table s_need_lots s_blurred_by) := by
    unfold r_blurred
    exact (pss_cons (ps_expr (xCall G_need_table hr (pa_cons (pv 0) pa_nil)))
    (pss_cons (ps_expr (xCall G_need_lots hr (pa_cons (pv 0) (pa_cons (pv 1) pa_nil))))
    (pss_one (ps_ret (xCall G_blurred_by hr (pa_cons (pv 0) (pa_cons (pv 1) pa_nil)))))))
theorem sc_all_blurs : FnScope ["answers", "found", "answer", "longer", "lots", "at"] ["answers"] (defScope (top 29)) := ⟨rfl, rfl, rfl, by decide +kernel, rfl, by decide +kernel, by decide +kernel⟩
/-- what all_blurs does -/
def r_all_blurs (K : PySem.W.Frag) (w : World) : L2.TS :=
    (tSeq (tAsg (tLst (tCons (tTup tNil) tNil)) (gName 1))
    (tSeq (tFor (iTup K (tVar 0)) (gName 2) (tSeq (tAsg (tLc (iList K (tVar 1)) (gName 4) tYes (tOp (rCatA K) (tVar 4) (tTup (tCons (tTup (tCons (tVar 2) tNil)) tNil))) [4]) (gName 3))
    (tSeq (tFor (iList K (tVar 1)) (gName 4) (tAsg (tOp (rCatL K) (tVar 3) (tLc (iRng1 (tCons (tCB (rLenS K) (tCons (tVar 4) tNil)) tNil)) (gName 5) tYes (tOp (rCatA K) (tOp (rCatA K) (tSl (rSlA K) (tVar 4) tNoPart (tPart (tVar 5))) (tTup (tCons (tOp (rCatA K) (tOp (rIxT K) (tVar 4) (tVar 5)) (tTup (tCons (tVar 2) tNil))) tNil))) (tSl (rSlA K) (tVar 4) (tPart (tOp rAddI (tVar 5) (tC (.int 1)))) tNoPart)) [5])) (gName 3)))
    (tAsg (tVar 3) (gName 1)))))
    (tRet (tVar 1))))
theorem d_all_blurs (B : Bi mg) (C : Co mg) {cdv : Value} {A : Around} {outer : List Env} {s : Shared} {H : Hp} {E : XK} (hr : Room k (A.deeper (PyProof.Rows.envOfC "all_blurs" (defScope (top 29)) s.heap.objs.size f cdv))) :
    PSs (cxOf CX0 P w K mg base ["answers", "found", "answer", "longer", "lots", "at"] "all_blurs" (defScope (top 29)) f cdv A outer s H E).nox (defBody (top 29)) (r_all_blurs K w) := by
    unfold r_all_blurs
    exact (pss_cons (ps_set (i := 1) sc_all_blurs.nd rfl (by first | exact Or.inl rfl | exact Or.inr rfl) (pe_lst (pa_cons (pe_tup pa_nil) pa_nil)))
    (pss_cons (ps_for PassesOwn.never rfl (kPiT (rK K) (pv 0)) (pg_name (i := 2) sc_all_blurs.nd rfl (by first | exact Or.inl rfl | exact Or.inr rfl)) (pss_cons (ps_setLc (i := 3) (own := [("lots", 4)]) (g := (gName 4)) (tt := tYes) (te := (tOp (rCatA K) (tVar 4) (tTup (tCons (tTup (tCons (tVar 2) tNil)) tNil)))) rfl sc_all_blurs.nd rfl rfl (sw_true rfl rfl rfl (by decide +kernel)) (kPiL (rK K) (pv 1)) (blkOk_by (by kernel_rfl)) (fun _ _ _ _ _ => by exact (pg_name (i := 4) sc_all_blurs.nd rfl (by first | exact Or.inl rfl | exact Or.inr rfl))) (fun _ _ _ _ _ => by exact pts_nil) (fun _ _ _ _ _ => by exact (pe_op (kCat (rK K)) (pv 4) (pe_tup (pa_cons (pe_tup (pa_cons (pv 2) pa_nil)) pa_nil)))))
    (pss_cons (ps_for PassesOwn.never rfl (kPiL (rK K) (pv 1)) (pg_name (i := 4) sc_all_blurs.nd rfl (by first | exact Or.inl rfl | exact Or.inr rfl)) (pss_one (ps_set (i := 3) sc_all_blurs.nd rfl (by first | exact Or.inl rfl | exact Or.inr rfl) (pe_op (kCatL (rK K)) (pv 3) (pe_lc (own := [("at", 5)]) (g := (gName 5)) (tt := tYes) (te := (tOp (rCatA K) (tOp (rCatA K) (tSl (rSlA K) (tVar 4) tNoPart (tPart (tVar 5))) (tTup (tCons (tOp (rCatA K) (tOp (rIxT K) (tVar 4) (tVar 5)) (tTup (tCons (tVar 2) tNil))) tNil))) (tSl (rSlA K) (tVar 4) (tPart (tOp rAddI (tVar 5) (tC (.int 1)))) tNoPart))) rfl sc_all_blurs.nd (pi_range1 rfl B.range (pa_cons (xLen (rK K) B.len (pv 4)) pa_nil)) (blkOk_by (by kernel_rfl)) (fun _ _ _ _ _ => by exact (pg_name (i := 5) sc_all_blurs.nd rfl (by first | exact Or.inl rfl | exact Or.inr rfl))) (fun _ _ _ _ _ => by exact pts_nil) (fun _ _ _ _ _ => by exact (pe_op (kCat (rK K)) (pe_op (kCat (rK K)) (pe_slice (kSlT (rK K)) (pv 4) po_none (po_some (pv 5))) (pe_tup (pa_cons (pe_op (kCat (rK K)) (xT (rK K) (pv 4) (pv 5)) (pe_tup (pa_cons (pv 2) pa_nil))) pa_nil))) (pe_slice (kSlT (rK K)) (pv 4) (po_some (pe_op op_add (pv 5) pe_int)) po_none))))))))
    (pss_one (ps_set (i := 1) sc_all_blurs.nd rfl (by first | exact Or.inl rfl | exact Or.inr rfl) (pv 3))))))
    (pss_one (ps_ret (pv 1)))))
theorem sc_finest_blur : FnScope ["table", "answers", "many", "lots"] ["table"] (defScope (top 30)) := ⟨rfl, rfl, rfl, by decide +kernel, rfl, by decide +kernel, by decide +kernel⟩
/-- what finest_blur does -/
def r_finest_blur (K : PySem.W.Frag) (w : World) (s_answers_in : Sp) (s_all_blurs : Sp) (s_blurred_by : Sp) (s_is_told : Sp) : L2.TS :=
    (tSeq (tAsg (tCall s_answers_in [] E0 (tCons (tVar 0) tNil)) (gName 1))
    (tSeq (tIfS (tTest (tOp rGtI (tCB (rLenS K) (tCons (tVar 1) tNil)) (tC (.int 8)))) tNever tNext)
    (tSeq (tFor (iList K (tCB (rSortD K false) (tCons (tLc (iList K (tCall s_all_blurs [] E0 (tCons (tVar 1) tNil))) (gName 3) tYes (tTup (tCons (tOp rSubI (tC (.int 0)) (tCB (rLenS K) (tCons (tVar 3) tNil))) (tCons (tVar 3) tNil))) [3]) tNil))) (gTup K 2 (gCons (gName 2) (gCons (gName 3) gNil))) (tIfS (tB (tCall s_is_told [] E0 (tCons (tCall s_blurred_by [] E0 (tCons (tVar 0) (tCons (tVar 3) tNil))) tNil))) (tRet (tVar 3)) tNext))
    (tRet (tC .non)))))
theorem d_finest_blur (B : Bi mg) (C : Co mg) (s_answers_in : Sp) (s_all_blurs : Sp) (s_blurred_by : Sp) (s_is_told : Sp) (G_answers_in : Fn P w K mg base k "answers_in" ["table"] s_answers_in) (G_all_blurs : Fn P w K mg base k "all_blurs" ["answers"] s_all_blurs) (G_blurred_by : Fn P w K mg base k "blurred_by" ["table", "lots"] s_blurred_by) (G_is_told : Fn P w K mg base k "is_told" ["table"] s_is_told) {cdv : Value} {A : Around} {outer : List Env} {s : Shared} {H : Hp} {E : XK} (hr : Room k (A.deeper (PyProof.Rows.envOfC "finest_blur" (defScope (top 30)) s.heap.objs.size f cdv))) :
    PSs (cxOf CX0 P w K mg base ["table", "answers", "many", "lots"] "finest_blur" (defScope (top 30)) f cdv A outer s H E).nox (defBody (top 30)) (r_finest_blur K w s_answers_in s_all_blurs s_blurred_by s_is_told) := by
    unfold r_finest_blur
    exact (pss_cons (ps_set (i := 1) sc_finest_blur.nd rfl (by first | exact Or.inl rfl | exact Or.inr rfl) (xCall G_answers_in hr (pa_cons (pv 0) pa_nil)))
    (pss_cons (ps_if (pt_cmpR op_gt (xLen (rK K) B.len (pv 1)) (xConst C.MOST_UNLIKE) (nomark _)) (pss_one ps_never) pss_nil)
    (pss_cons (ps_for PassesOwn.never rfl (kPiL (rK K) (xSortD (rK K) false B.sorted hr (pe_lc (own := [("lots", 3)]) (g := (gName 3)) (tt := tYes) (te := (tTup (tCons (tOp rSubI (tC (.int 0)) (tCB (rLenS K) (tCons (tVar 3) tNil))) (tCons (tVar 3) tNil)))) rfl sc_finest_blur.nd (kPiL (rK K) (xCall G_all_blurs hr (pa_cons (pv 1) pa_nil))) (blkOk_by (by kernel_rfl)) (fun _ _ _ _ _ => by exact (pg_name (i := 3) sc_finest_blur.nd rfl (by first | exact Or.inl rfl | exact Or.inr rfl))) (fun _ _ _ _ _ => by exact pts_nil) (fun _ _ _ _ _ => by exact (pe_tup (pa_cons (pe_op op_sub pe_int (xLen (rK K) B.len (pv 3))) (pa_cons (pv 3) pa_nil))))))) (kTupT (rK K) rfl (pgs_cons (pg_name (i := 2) sc_finest_blur.nd rfl (by first | exact Or.inl rfl | exact Or.inr rfl)) (pgs_cons (pg_name (i := 3) sc_finest_blur.nd rfl (by first | exact Or.inl rfl | exact Or.inr rfl)) pgs_nil))) (pss_one (ps_if (pt_val (xCall G_is_told hr (pa_cons (xCall G_blurred_by hr (pa_cons (pv 0) (pa_cons (pv 3) pa_nil))) pa_nil))) (pss_one (ps_ret (pv 3))) pss_nil)))
    (pss_one (ps_ret pe_non)))))
end
end K15
namespace K15
open PySem L2 Evl
section
variable {P : Program} {w : World} {K : PySem.W.Frag} {mg : Str → Option Value} {base : Heap} {f : Addr} {fd : FuncData} {k : Nat}
theorem sc__law_taken : FnScope ["_law_row", "_law_many", "_law_cell", "_law_found"] ["_law_row", "_law_many"] (defScope (top 32)) := ⟨rfl, rfl, rfl, by decide +kernel, rfl, by decide +kernel, by decide +kernel⟩
/-- what _law_taken does -/
def r__law_taken (K : PySem.W.Frag) (w : World) : L2.TS :=
    (tSeq (tIfS (tTest (tOp rGtI (tOp (rIxL K) (tVar 0) (tC (.int 3))) (tC (.int 0)))) (tSeq (tAsg (tOp rModI (tCB rInt1 (tCons (tOp (rIxL K) (tVar 0) (tC (.int 3))) tNil)) (tVar 1)) (gName 3))
    (tSeq (tAsg (tOp rFdivI (tOp (rIxL K) (tVar 0) (tC (.int 3))) (tVar 1)) (gSub (tVar 0) (tC (.int 3)) rSetL))
    (tRet (tVar 3)))) tNext)
    (tSeq (tAsg (tOp rAddI (tOp (rIxL K) (tVar 0) (tC (.int 1))) (tC (.int 1))) (gSub (tVar 0) (tC (.int 1)) rSetL))
    (tSeq (tIfS (tTest (tOp rGtI (tOp (rIxL K) (tVar 0) (tC (.int 1))) (tCB (rLenS K) (tCons (tOp (rIxL K) (tVar 0) (tC (.int 0))) tNil)))) (tSeq (tAsg (tOp rModI (tCB rInt1 (tCons (tOp rAddI (tOp rMulI (tOp (rIxL K) (tVar 0) (tC (.int 2))) (tC (.int 48271))) (tC (.int 11))) tNil)) (tC (.int 2147483647))) (gSub (tVar 0) (tC (.int 2)) rSetL))
    (tRet (tOp rModI (tCB rInt1 (tCons (tOp rFdivI (tOp (rIxL K) (tVar 0) (tC (.int 2))) (tC (.int 7))) tNil)) (tVar 1)))) tNext)
    (tSeq (tAsg (tOp (rIxL K) (tOp (rIxL K) (tVar 0) (tC (.int 0))) (tOp rSubI (tOp (rIxL K) (tVar 0) (tC (.int 1))) (tC (.int 1)))) (gName 2))
    (tSeq (tAsg (tOp rModI (tCB rInt1 (tCons (tOp rAddI (tOp rAddI (tOp rMulI (tOp (rIxL K) (tVar 0) (tC (.int 2))) (tC (.int 48271))) (tVar 2)) (tC (.int 11))) tNil)) (tC (.int 2147483647))) (gSub (tVar 0) (tC (.int 2)) rSetL))
    (tSeq (tIfS (tTest (tOp rGeI (tVar 2) (tOp rPowI (tC (.int 10)) (tC (.int 18))))) (tAsg (tOp rFdivI (tVar 2) (tVar 1)) (gSub (tVar 0) (tC (.int 3)) rSetL)) tNext)
    (tRet (tOp rModI (tCB rInt1 (tCons (tVar 2) tNil)) (tVar 1)))))))))
theorem d__law_taken (B : Bi mg) (C : Co mg) {cdv : Value} {A : Around} {outer : List Env} {s : Shared} {H : Hp} {E : XK} (hr : Room k (A.deeper (PyProof.Rows.envOfC "_law_taken" (defScope (top 32)) s.heap.objs.size f cdv))) :
    PSs (cxOf CX0 P w K mg base ["_law_row", "_law_many", "_law_cell", "_law_found"] "_law_taken" (defScope (top 32)) f cdv A outer s H E).nox (defBody (top 32)) (r__law_taken K w) := by
    unfold r__law_taken
    exact (pss_cons (ps_if (pt_cmpR op_gt (xL (rK K) (pv 0) pe_int) pe_int (nomark _)) (pss_cons (ps_set (i := 3) sc__law_taken.nd rfl (by first | exact Or.inl rfl | exact Or.inr rfl) (pe_op op_mod (xInt B.int (xL (rK K) (pv 0) pe_int)) (pv 1)))
    (pss_cons (ps_asg (pe_op op_fdiv (xL (rK K) (pv 0) pe_int) (pv 1)) (pg_sub (pv 0) pe_int set_list))
    (pss_one (ps_ret (pv 3))))) pss_nil)
    (pss_cons (ps_asg (pe_op op_add (xL (rK K) (pv 0) pe_int) pe_int) (pg_sub (pv 0) pe_int set_list))
    (pss_cons (ps_if (pt_cmpR op_gt (xL (rK K) (pv 0) pe_int) (xLen (rK K) B.len (xL (rK K) (pv 0) pe_int)) (nomark _)) (pss_cons (ps_asg (pe_op op_mod (xInt B.int (pe_op op_add (pe_op op_mul (xL (rK K) (pv 0) pe_int) pe_int) pe_int)) pe_int) (pg_sub (pv 0) pe_int set_list))
    (pss_one (ps_ret (pe_op op_mod (xInt B.int (pe_op op_fdiv (xL (rK K) (pv 0) pe_int) pe_int)) (pv 1))))) pss_nil)
    (pss_cons (ps_set (i := 2) sc__law_taken.nd rfl (by first | exact Or.inl rfl | exact Or.inr rfl) (xL (rK K) (xL (rK K) (pv 0) pe_int) (pe_op op_sub (xL (rK K) (pv 0) pe_int) pe_int)))
    (pss_cons (ps_asg (pe_op op_mod (xInt B.int (pe_op op_add (pe_op op_add (pe_op op_mul (xL (rK K) (pv 0) pe_int) pe_int) (pv 2)) pe_int)) pe_int) (pg_sub (pv 0) pe_int set_list))
    (pss_cons (ps_if (pt_cmpR op_ge (pv 2) (pe_op op_pow pe_int pe_int) (nomark _)) (pss_one (ps_asg (pe_op op_fdiv (pv 2) (pv 1)) (pg_sub (pv 0) pe_int set_list))) pss_nil)
    (pss_one (ps_ret (pe_op op_mod (xInt B.int (pv 2)) (pv 1))))))))))
theorem sc__law_pick : FnScope ["_law_row", "_law_things"] ["_law_row", "_law_things"] (defScope (top 33)) := ⟨rfl, rfl, rfl, by decide +kernel, rfl, by decide +kernel, by decide +kernel⟩
/-- what _law_pick does -/
def r__law_pick (K : PySem.W.Frag) (w : World) (s__law_taken : Sp) : L2.TS :=
    (tRet (tOp (rIxL K) (tVar 1) (tCall s__law_taken [] E0 (tCons (tVar 0) (tCons (tCB (rLenS K) (tCons (tVar 1) tNil)) tNil)))))
theorem d__law_pick (B : Bi mg) (C : Co mg) (s__law_taken : Sp) (G__law_taken : Fn P w K mg base k "_law_taken" ["_law_row", "_law_many"] s__law_taken) {cdv : Value} {A : Around} {outer : List Env} {s : Shared} {H : Hp} {E : XK} (hr : Room k (A.deeper (PyProof.Rows.envOfC "_law_pick" (defScope (top 33)) s.heap.objs.size f cdv))) :
    PSs (cxOf CX0 P w K mg base ["_law_row", "_law_things"] "_law_pick" (defScope (top 33)) f cdv A outer s H E).nox (defBody (top 33)) (r__law_pick K w s__law_taken) := by
    unfold r__law_pick
    exact (pss_one (ps_ret (xL (rK K) (pv 1) (xCall G__law_taken hr (pa_cons (pv 0) (pa_cons (xLen (rK K) B.len (pv 1)) pa_nil))))))
theorem sc__law_alike : FnScope ["_law_found", "_law_due", "_law_k", "_law_key"] ["_law_found", "_law_due"] (defScope (top 34)) := ⟨rfl, rfl, rfl, by decide +kernel, rfl, by decide +kernel, by decide +kernel⟩
/-- what _law_alike does -/
def r__law_alike (K : PySem.W.Frag) (w : World) (s__law_alike : Sp) : L2.TS :=
    (tSeq (tIfS (tB (tCB (rIsiT K) (tCons (tVar 1) (tCons (tTup (tCons (tC (.ty "tuple")) (tCons (tC (.ty "list")) tNil))) tNil)))) (tSeq (tIfS (tOr (tNot (tB (tCB (rIsiT K) (tCons (tVar 0) (tCons (tTup (tCons (tC (.ty "tuple")) (tCons (tC (.ty "list")) tNil))) tNil))))) (tTest (tOp rNe (tCB (rIsi K) (tCons (tVar 0) (tCons (tC (.ty "list")) tNil))) (tCB (rIsi K) (tCons (tVar 1) (tCons (tC (.ty "list")) tNil)))))) (tRet (tC (.bl false))) tNext)
    (tSeq (tIfS (tTest (tOp rNe (tCB (rLenS K) (tCons (tVar 0) tNil)) (tCB (rLenS K) (tCons (tVar 1) tNil)))) (tRet (tC (.bl false))) tNext)
    (tRet (tOp (rEqD K) (tLc (iRng1 (tCons (tCB (rLenS K) (tCons (tVar 1) tNil)) tNil)) (gName 2) (tNot (tB (tCall s__law_alike [] E0 (tCons (tOp (rIx K) (tVar 0) (tVar 2)) (tCons (tOp (rIx K) (tVar 1) (tVar 2)) tNil))))) (tVar 2) [2]) (tLst tNil))))) tNext)
    (tSeq (tIfS (tB (tCB (rIsi K) (tCons (tVar 1) (tCons (tC (.ty "dict")) tNil)))) tNever tNext)
    (tSeq (tIfS (tOr (tTest (tOp rIsNn (tVar 1) (tC .non))) (tB (tCB (rIsi K) (tCons (tVar 1) (tCons (tC (.ty "str")) tNil))))) tNever tNext)
    (tRet (tAndV (tCB (rIsi K) (tCons (tVar 0) (tCons (tC (.ty "int")) tNil))) (tAndV (tOp rEq (tCB (rIsi K) (tCons (tVar 0) (tCons (tC (.ty "bool")) tNil))) (tCB (rIsi K) (tCons (tVar 1) (tCons (tC (.ty "bool")) tNil)))) (tOp (rEqD K) (tVar 0) (tVar 1))))))))
theorem d__law_alike (B : Bi mg) (C : Co mg) (s__law_alike : Sp) (G__law_alike : Fn P w K mg base k "_law_alike" ["_law_found", "_law_due"] s__law_alike) {cdv : Value} {A : Around} {outer : List Env} {s : Shared} {H : Hp} {E : XK} (hr : Room k (A.deeper (PyProof.Rows.envOfC "_law_alike" (defScope (top 34)) s.heap.objs.size f cdv))) :
    PSs (cxOf CX0 P w K mg base ["_law_found", "_law_due", "_law_k", "_law_key"] "_law_alike" (defScope (top 34)) f cdv A outer s H E).nox (defBody (top 34)) (r__law_alike K w s__law_alike) := by
    unfold r__law_alike
    exact (pss_cons (ps_if (pt_val (xIsiTL (rK K) B.isinstance B.tuple B.list (pv 1))) (pss_cons (ps_if (PW.pt (pw_or (pt_not (pt_val (xIsiTL (rK K) B.isinstance B.tuple B.list (pv 0)))) (pw_or1 (pt_cmpR op_ne (xIsi (rK K) B.isinstance B.list PyProof.Rows.boot_list (pv 0)) (xIsi (rK K) B.isinstance B.list PyProof.Rows.boot_list (pv 1)) (nomark _))))) (pss_one (ps_ret pe_bl)) pss_nil)
    (pss_cons (ps_if (pt_cmpR op_ne (xLen (rK K) B.len (pv 0)) (xLen (rK K) B.len (pv 1)) (nomark _)) (pss_one (ps_ret pe_bl)) pss_nil)
    (pss_one (ps_ret (pe_cmpR (kEqD (rK K) hr.units) (pe_lc (own := [("_law_k", 2)]) (g := (gName 2)) (tt := (tNot (tB (tCall s__law_alike [] E0 (tCons (tOp (rIx K) (tVar 0) (tVar 2)) (tCons (tOp (rIx K) (tVar 1) (tVar 2)) tNil)))))) (te := (tVar 2)) rfl sc__law_alike.nd (pi_range1 rfl B.range (pa_cons (xLen (rK K) B.len (pv 1)) pa_nil)) (blkOk_by (by kernel_rfl)) (fun _ _ _ _ _ => by exact (pg_name (i := 2) sc__law_alike.nd rfl (by first | exact Or.inl rfl | exact Or.inr rfl))) (fun _ _ _ _ _ => by exact (pts_one (pt_not (pt_val (xCall G__law_alike hr (pa_cons (pe_ix (kIx (rK K)) (pv 0) (pv 2) (fun _ _ => rfl)) (pa_cons (pe_ix (kIx (rK K)) (pv 1) (pv 2) (fun _ _ => rfl)) pa_nil))))))) (fun _ _ _ _ _ => by exact (pv 2))) (pe_lst pa_nil) (nomark _)))))) pss_nil)
    (pss_cons (ps_if (pt_val (xIsi (rK K) B.isinstance B.dict PyProof.Rows.boot_dict (pv 1))) pss_never pss_nil)
    (pss_cons (ps_if (PW.pt (pw_or (pt_cmpR op_isN (pv 1) pe_non (nomark _)) (pw_or1 (pt_val (xIsi (rK K) B.isinstance B.str PyProof.Rows.boot_str (pv 1)))))) pss_never pss_nil)
    (pss_one (ps_ret (pe_and (xIsi (rK K) B.isinstance B.int PyProof.Rows.boot_int (pv 0)) (pe_and (pe_cmpR op_eq (xIsi (rK K) B.isinstance B.bool PyProof.Rows.boot_bool (pv 0)) (xIsi (rK K) B.isinstance B.bool PyProof.Rows.boot_bool (pv 1)) (nomark _)) (pe_one (pe_cmpR (kEqD (rK K) hr.units) (pv 0) (pv 1) (nomark _))))))))))
theorem sc__law_table : FnScope ["_law_row", "_law_high", "_law_wide", "_law_many", "_law_some", "_law_rows", "_law_columns", "_law_x", "_law_y"] ["_law_row", "_law_high", "_law_wide", "_law_many"] (defScope (top 35)) := ⟨rfl, rfl, rfl, by decide +kernel, rfl, by decide +kernel, by decide +kernel⟩
/-- what _law_table does -/
def r__law_table (K : PySem.W.Frag) (w : World) (s__law_taken : Sp) : L2.TS :=
    (tSeq (tAsg (tTup (tCons (tOp rAddI (tC (.int 1)) (tCall s__law_taken [] E0 (tCons (tVar 0) (tCons (tVar 1) tNil)))) (tCons (tOp rAddI (tC (.int 1)) (tCall s__law_taken [] E0 (tCons (tVar 0) (tCons (tVar 2) tNil)))) tNil))) (gTup K 2 (gCons (gName 5) (gCons (gName 6) gNil))))
    (tSeq (tAsg (tOp rAddI (tC (.int 1)) (tCall s__law_taken [] E0 (tCons (tVar 0) (tCons (tVar 3) tNil)))) (gName 4))
    (tRet (tCB (rTupS K) (tCons (tLc (iRng1 (tCons (tVar 5) tNil)) (gName 7) tYes (tCB (rTupS K) (tCons (tLc (iRng1 (tCons (tVar 6) tNil)) (gName 8) tYes (tCall s__law_taken [] E0 (tCons (tVar 0) (tCons (tVar 4) tNil))) [8]) tNil)) [7]) tNil)))))
theorem d__law_table (B : Bi mg) (C : Co mg) (s__law_taken : Sp) (G__law_taken : Fn P w K mg base k "_law_taken" ["_law_row", "_law_many"] s__law_taken) {cdv : Value} {A : Around} {outer : List Env} {s : Shared} {H : Hp} {E : XK} (hr : Room k (A.deeper (PyProof.Rows.envOfC "_law_table" (defScope (top 35)) s.heap.objs.size f cdv))) :
    PSs (cxOf CX0 P w K mg base ["_law_row", "_law_high", "_law_wide", "_law_many", "_law_some", "_law_rows", "_law_columns", "_law_x", "_law_y"] "_law_table" (defScope (top 35)) f cdv A outer s H E).nox (defBody (top 35)) (r__law_table K w s__law_taken) := by
    unfold r__law_table
    exact (pss_cons (ps_asg (pe_tup (pa_cons (pe_op op_add pe_int (xCall G__law_taken hr (pa_cons (pv 0) (pa_cons (pv 1) pa_nil)))) (pa_cons (pe_op op_add pe_int (xCall G__law_taken hr (pa_cons (pv 0) (pa_cons (pv 2) pa_nil)))) pa_nil))) (kTupT (rK K) rfl (pgs_cons (pg_name (i := 5) sc__law_table.nd rfl (by first | exact Or.inl rfl | exact Or.inr rfl)) (pgs_cons (pg_name (i := 6) sc__law_table.nd rfl (by first | exact Or.inl rfl | exact Or.inr rfl)) pgs_nil))))
    (pss_cons (ps_set (i := 4) sc__law_table.nd rfl (by first | exact Or.inl rfl | exact Or.inr rfl) (pe_op op_add pe_int (xCall G__law_taken hr (pa_cons (pv 0) (pa_cons (pv 3) pa_nil)))))
    (pss_one (ps_ret (xTup (rK K) B.tuple (pe_lc (own := [("_law_x", 7)]) (g := (gName 7)) (tt := tYes) (te := (tCB (rTupS K) (tCons (tLc (iRng1 (tCons (tVar 6) tNil)) (gName 8) tYes (tCall s__law_taken [] E0 (tCons (tVar 0) (tCons (tVar 4) tNil))) [8]) tNil))) rfl sc__law_table.nd (pi_range1 rfl B.range (pa_cons (pv 5) pa_nil)) (blkOk_by (by kernel_rfl)) (fun _ _ _ _ _ => by exact (pg_name (i := 7) sc__law_table.nd rfl (by first | exact Or.inl rfl | exact Or.inr rfl))) (fun _ _ _ _ _ => by exact pts_nil) (fun _ _ _ _ _ => by exact (xTup (rK K) B.tuple (pe_lc (own := [("_law_y", 8)]) (g := (gName 8)) (tt := tYes) (te := (tCall s__law_taken [] E0 (tCons (tVar 0) (tCons (tVar 4) tNil)))) rfl sc__law_table.nd (pi_range1 rfl B.range (pa_cons (pv 6) pa_nil)) (blkOk_by (by kernel_rfl)) (fun _ _ _ _ _ => by exact (pg_name (i := 8) sc__law_table.nd rfl (by first | exact Or.inl rfl | exact Or.inr rfl))) (fun _ _ _ _ _ => by exact pts_nil) (fun _ _ _ _ _ => by exact (xCall G__law_taken hr (pa_cons (pv 0) (pa_cons (pv 4) pa_nil)))))))))))))
theorem sc__law_turned : FnScope ["_law_table_here", "_law_y", "_law_line"] ["_law_table_here"] (defScope (top 36)) := ⟨rfl, rfl, rfl, by decide +kernel, rfl, by decide +kernel, by decide +kernel⟩
/-- what _law_turned does -/
def r__law_turned (K : PySem.W.Frag) (w : World) : L2.TS :=
    (tRet (tCB (rTupS K) (tCons (tLc (iRng1 (tCons (tCB (rLenS K) (tCons (tOp (rIxT K) (tVar 0) (tC (.int 0))) tNil)) tNil)) (gName 1) tYes (tCB (rTupS K) (tCons (tLc (iTup K (tVar 0)) (gName 2) tYes (tOp (rIxT K) (tVar 2) (tVar 1)) [2]) tNil)) [1]) tNil)))
theorem d__law_turned (B : Bi mg) (C : Co mg) {cdv : Value} {A : Around} {outer : List Env} {s : Shared} {H : Hp} {E : XK} (hr : Room k (A.deeper (PyProof.Rows.envOfC "_law_turned" (defScope (top 36)) s.heap.objs.size f cdv))) :
    PSs (cxOf CX0 P w K mg base ["_law_table_here", "_law_y", "_law_line"] "_law_turned" (defScope (top 36)) f cdv A outer s H E).nox (defBody (top 36)) (r__law_turned K w) := by
    unfold r__law_turned
    exact (pss_one (ps_ret (xTup (rK K) B.tuple (pe_lc (own := [("_law_y", 1)]) (g := (gName 1)) (tt := tYes) (te := (tCB (rTupS K) (tCons (tLc (iTup K (tVar 0)) (gName 2) tYes (tOp (rIxT K) (tVar 2) (tVar 1)) [2]) tNil))) rfl sc__law_turned.nd (pi_range1 rfl B.range (pa_cons (xLen (rK K) B.len (xT (rK K) (pv 0) pe_int)) pa_nil)) (blkOk_by (by kernel_rfl)) (fun _ _ _ _ _ => by exact (pg_name (i := 1) sc__law_turned.nd rfl (by first | exact Or.inl rfl | exact Or.inr rfl))) (fun _ _ _ _ _ => by exact pts_nil) (fun _ _ _ _ _ => by exact (xTup (rK K) B.tuple (pe_lc (own := [("_law_line", 2)]) (g := (gName 2)) (tt := tYes) (te := (tOp (rIxT K) (tVar 2) (tVar 1))) rfl sc__law_turned.nd (kPiT (rK K) (pv 0)) (blkOk_by (by kernel_rfl)) (fun _ _ _ _ _ => by exact (pg_name (i := 2) sc__law_turned.nd rfl (by first | exact Or.inl rfl | exact Or.inr rfl))) (fun _ _ _ _ _ => by exact pts_nil) (fun _ _ _ _ _ => by exact (xT (rK K) (pv 2) (pv 1))))))))))
theorem sc__law_whole : FnScope ["_law_table_here"] ["_law_table_here"] (defScope (top 37)) := ⟨rfl, rfl, rfl, by decide +kernel, rfl, by decide +kernel, by decide +kernel⟩
/-- what _law_whole does -/
def r__law_whole (K : PySem.W.Frag) (w : World) : L2.TS :=
    (tRet (tTup (tCons (tTupRg (tRg1 (tCB (rLenS K) (tCons (tVar 0) tNil)))) (tCons (tTupRg (tRg1 (tCB (rLenS K) (tCons (tOp (rIxT K) (tVar 0) (tC (.int 0))) tNil)))) tNil))))
theorem d__law_whole (B : Bi mg) (C : Co mg) {cdv : Value} {A : Around} {outer : List Env} {s : Shared} {H : Hp} {E : XK} (hr : Room k (A.deeper (PyProof.Rows.envOfC "_law_whole" (defScope (top 37)) s.heap.objs.size f cdv))) :
    PSs (cxOf CX0 P w K mg base ["_law_table_here"] "_law_whole" (defScope (top 37)) f cdv A outer s H E).nox (defBody (top 37)) (r__law_whole K w) := by
    unfold r__law_whole
    exact (pss_one (ps_ret (pe_tup (pa_cons (pe_tupRg rfl rfl B.tuple (prg_1 rfl B.range (xLen (rK K) B.len (pv 0)))) (pa_cons (pe_tupRg rfl rfl B.tuple (prg_1 rfl B.range (xLen (rK K) B.len (xT (rK K) (pv 0) pe_int)))) pa_nil)))))
theorem sc__law_lots : FnScope ["_law_table_here", "_law_rows", "_law_columns", "_law_turn", "_law_found", "_law_left", "_law_lot", "_law_step", "_law_near", "_law_x", "_law_z"] ["_law_table_here", "_law_rows", "_law_columns"] (defScope (top 38)) := ⟨rfl, rfl, rfl, by decide +kernel, rfl, by decide +kernel, by decide +kernel⟩
/-- what _law_lots does -/
def r__law_lots (K : PySem.W.Frag) (w : World) (s__law_meets : Sp) : L2.TS :=
    (tSeq (tPar 4 5 (tCons (tLst tNil) (tCons (tCB (rListS K) (tCons (tVar 1) tNil)) tNil)))
    (tSeq (tFor (iRng1 (tCons (tCB (rLenS K) (tCons (tVar 1) tNil)) tNil)) (gName 3) (tSeq (tAsg (tSl (rSlL K) (tVar 5) tNoPart (tPart (tC (.int 1)))) (gName 6))
    (tSeq (tFor (iRng1 (tCons (tCB (rLenS K) (tCons (tVar 5) tNil)) tNil)) (gName 7) (tSeq (tAsg (tLc (iList K (tVar 5)) (gName 9) (tAnd (tTest (tOp (rIn K true) (tVar 9) (tVar 6))) (tTest (tOp (rNeD K) (tLc (iList K (tVar 6)) (gName 10) (tB (tCall s__law_meets [] E0 (tCons (tVar 0) (tCons (tVar 9) (tCons (tVar 10) (tCons (tVar 2) tNil)))))) (tVar 10) [10]) (tLst tNil)))) (tVar 9) [9]) (gName 8))
    (tAsg (tOp (rCatL K) (tVar 6) (tVar 8)) (gName 6))))
    (tSeq (tAsg (tLc (iList K (tVar 5)) (gName 9) (tTest (tOp (rIn K true) (tVar 9) (tVar 6))) (tVar 9) [9]) (gName 5))
    (tAsg (tOp (rCatL K) (tVar 4) (tIf (tTest (tOp (rNeD K) (tVar 6) (tLst tNil))) (tLst (tCons (tCB (rTupS K) (tCons (tCB (rSorted K) (tCons (tVar 6) tNil)) tNil)) tNil)) (tLst tNil))) (gName 4))))))
    (tRet (tVar 4))))
theorem d__law_lots (B : Bi mg) (C : Co mg) (s__law_meets : Sp) (G__law_meets : Fn P w K mg base k "_law_meets" ["_law_table_here", "_law_one_here", "_law_other", "_law_columns"] s__law_meets) {cdv : Value} {A : Around} {outer : List Env} {s : Shared} {H : Hp} {E : XK} (hr : Room k (A.deeper (PyProof.Rows.envOfC "_law_lots" (defScope (top 38)) s.heap.objs.size f cdv))) :
    PSs (cxOf CX0 P w K mg base ["_law_table_here", "_law_rows", "_law_columns", "_law_turn", "_law_found", "_law_left", "_law_lot", "_law_step", "_law_near", "_law_x", "_law_z"] "_law_lots" (defScope (top 38)) f cdv A outer s H E).nox (defBody (top 38)) (r__law_lots K w s__law_meets) := by
    unfold r__law_lots
    exact (pss_cons (ps_par (i := 4) (j := 5) rfl sc__law_lots.nd rfl rfl (by decide) rfl rfl (pa_cons (pe_lst pa_nil) (pa_cons (xList (rK K) B.list (pv 1)) pa_nil)) rfl)
    (pss_cons (ps_for PassesOwn.never rfl (pi_range1 rfl B.range (pa_cons (xLen (rK K) B.len (pv 1)) pa_nil)) (pg_name (i := 3) sc__law_lots.nd rfl (by first | exact Or.inl rfl | exact Or.inr rfl)) (pss_cons (ps_set (i := 6) sc__law_lots.nd rfl (by first | exact Or.inl rfl | exact Or.inr rfl) (pe_slice (kSlL (rK K)) (pv 5) po_none (po_some pe_int)))
    (pss_cons (ps_for PassesOwn.never rfl (pi_range1 rfl B.range (pa_cons (xLen (rK K) B.len (pv 5)) pa_nil)) (pg_name (i := 7) sc__law_lots.nd rfl (by first | exact Or.inl rfl | exact Or.inr rfl)) (pss_cons (ps_setLc (i := 8) (own := [("_law_x", 9)]) (g := (gName 9)) (tt := (tAnd (tTest (tOp (rIn K true) (tVar 9) (tVar 6))) (tTest (tOp (rNeD K) (tLc (iList K (tVar 6)) (gName 10) (tB (tCall s__law_meets [] E0 (tCons (tVar 0) (tCons (tVar 9) (tCons (tVar 10) (tCons (tVar 2) tNil)))))) (tVar 10) [10]) (tLst tNil))))) (te := (tVar 9)) rfl sc__law_lots.nd rfl rfl (sw_true rfl rfl rfl (by decide +kernel)) (kPiL (rK K) (pv 5)) (blkOk_by (by kernel_rfl)) (fun _ _ _ _ _ => by exact (pg_name (i := 9) sc__law_lots.nd rfl (by first | exact Or.inl rfl | exact Or.inr rfl))) (fun _ _ _ _ _ => by exact (pts_one (PW.pt (pw_and (pt_cmpR (kNotIn (rK K)) (pv 9) (pv 6) rfl) (pw_and1 (pt_cmpR (kNeD (rK K) hr.units) (pe_lc (own := [("_law_z", 10)]) (g := (gName 10)) (tt := (tB (tCall s__law_meets [] E0 (tCons (tVar 0) (tCons (tVar 9) (tCons (tVar 10) (tCons (tVar 2) tNil))))))) (te := (tVar 10)) rfl sc__law_lots.nd (kPiL (rK K) (pv 6)) (blkOk_by (by kernel_rfl)) (fun _ _ _ _ _ => by exact (pg_name (i := 10) sc__law_lots.nd rfl (by first | exact Or.inl rfl | exact Or.inr rfl))) (fun _ _ _ _ _ => by exact (pts_one (pt_val (xCall G__law_meets hr (pa_cons (pv 0) (pa_cons (pv 9) (pa_cons (pv 10) (pa_cons (pv 2) pa_nil)))))))) (fun _ _ _ _ _ => by exact (pv 10))) (pe_lst pa_nil) (nomark _))))))) (fun _ _ _ _ _ => by exact (pv 9)))
    (pss_one (ps_set (i := 6) sc__law_lots.nd rfl (by first | exact Or.inl rfl | exact Or.inr rfl) (pe_op (kCatL (rK K)) (pv 6) (pv 8))))))
    (pss_cons (ps_setLc (i := 5) (own := [("_law_x", 9)]) (g := (gName 9)) (tt := (tTest (tOp (rIn K true) (tVar 9) (tVar 6)))) (te := (tVar 9)) rfl sc__law_lots.nd rfl rfl (sw_true rfl rfl rfl (by decide +kernel)) (kPiL (rK K) (pv 5)) (blkOk_by (by kernel_rfl)) (fun _ _ _ _ _ => by exact (pg_name (i := 9) sc__law_lots.nd rfl (by first | exact Or.inl rfl | exact Or.inr rfl))) (fun _ _ _ _ _ => by exact (pts_one (pt_cmpR (kNotIn (rK K)) (pv 9) (pv 6) rfl))) (fun _ _ _ _ _ => by exact (pv 9)))
    (pss_one (ps_set (i := 4) sc__law_lots.nd rfl (by first | exact Or.inl rfl | exact Or.inr rfl) (pe_op (kCatL (rK K)) (pv 4) (pe_ifExp (pt_cmpR (kNeD (rK K) hr.units) (pv 6) (pe_lst pa_nil) (nomark _)) (pe_lst (pa_cons (xTup (rK K) B.tuple (xSorted (rK K) B.sorted (pv 6))) pa_nil)) (pe_lst pa_nil)))))))))
    (pss_one (ps_ret (pv 4)))))
theorem sc__law_one : FnScope ["_law_table_here", "_law_rows", "_law_columns", "_law_first", "_law_x", "_law_y"] ["_law_table_here", "_law_rows", "_law_columns"] (defScope (top 39)) := ⟨rfl, rfl, rfl, by decide +kernel, rfl, by decide +kernel, by decide +kernel⟩
/-- what _law_one does -/
def r__law_one (K : PySem.W.Frag) (w : World) : L2.TS :=
    (tSeq (tAsg (tOp (rIxT K) (tOp (rIxT K) (tVar 0) (tOp (rIxT K) (tVar 1) (tC (.int 0)))) (tOp (rIxT K) (tVar 2) (tC (.int 0)))) (gName 3))
    (tRet (tOp (rEqD K) (tLc (iTup K (tVar 1)) (gName 4) (tTest (tOp (rNeD K) (tLc (iTup K (tVar 2)) (gName 5) (tTest (tOp rNe (tOp (rIxT K) (tOp (rIxT K) (tVar 0) (tVar 4)) (tVar 5)) (tVar 3))) (tVar 5) [5]) (tLst tNil))) (tVar 4) [4]) (tLst tNil))))
theorem d__law_one (B : Bi mg) (C : Co mg) {cdv : Value} {A : Around} {outer : List Env} {s : Shared} {H : Hp} {E : XK} (hr : Room k (A.deeper (PyProof.Rows.envOfC "_law_one" (defScope (top 39)) s.heap.objs.size f cdv))) :
    PSs (cxOf CX0 P w K mg base ["_law_table_here", "_law_rows", "_law_columns", "_law_first", "_law_x", "_law_y"] "_law_one" (defScope (top 39)) f cdv A outer s H E).nox (defBody (top 39)) (r__law_one K w) := by
    unfold r__law_one
    exact (pss_cons (ps_set (i := 3) sc__law_one.nd rfl (by first | exact Or.inl rfl | exact Or.inr rfl) (xT (rK K) (xT (rK K) (pv 0) (xT (rK K) (pv 1) pe_int)) (xT (rK K) (pv 2) pe_int)))
    (pss_one (ps_ret (pe_cmpR (kEqD (rK K) hr.units) (pe_lc (own := [("_law_x", 4)]) (g := (gName 4)) (tt := (tTest (tOp (rNeD K) (tLc (iTup K (tVar 2)) (gName 5) (tTest (tOp rNe (tOp (rIxT K) (tOp (rIxT K) (tVar 0) (tVar 4)) (tVar 5)) (tVar 3))) (tVar 5) [5]) (tLst tNil)))) (te := (tVar 4)) rfl sc__law_one.nd (kPiT (rK K) (pv 1)) (blkOk_by (by kernel_rfl)) (fun _ _ _ _ _ => by exact (pg_name (i := 4) sc__law_one.nd rfl (by first | exact Or.inl rfl | exact Or.inr rfl))) (fun _ _ _ _ _ => by exact (pts_one (pt_cmpR (kNeD (rK K) hr.units) (pe_lc (own := [("_law_y", 5)]) (g := (gName 5)) (tt := (tTest (tOp rNe (tOp (rIxT K) (tOp (rIxT K) (tVar 0) (tVar 4)) (tVar 5)) (tVar 3)))) (te := (tVar 5)) rfl sc__law_one.nd (kPiT (rK K) (pv 2)) (blkOk_by (by kernel_rfl)) (fun _ _ _ _ _ => by exact (pg_name (i := 5) sc__law_one.nd rfl (by first | exact Or.inl rfl | exact Or.inr rfl))) (fun _ _ _ _ _ => by exact (pts_one (pt_cmpR op_ne (xT (rK K) (xT (rK K) (pv 0) (pv 4)) (pv 5)) (pv 3) (nomark _)))) (fun _ _ _ _ _ => by exact (pv 5))) (pe_lst pa_nil) (nomark _)))) (fun _ _ _ _ _ => by exact (pv 4))) (pe_lst pa_nil) (nomark _)))))
theorem sc__law_told : FnScope ["_law_table_here", "_law_rows", "_law_columns", "_law_lots_here", "_law_lot"] ["_law_table_here", "_law_rows", "_law_columns"] (defScope (top 40)) := ⟨rfl, rfl, rfl, by decide +kernel, rfl, by decide +kernel, by decide +kernel⟩
/-- what _law_told does -/
def r__law_told (K : PySem.W.Frag) (w : World) (s__law_one : Sp) (s__law_turned : Sp) (s__law_lots : Sp) (s__law_told : Sp) : L2.TS :=
    (tSeq (tIfS (tB (tCall s__law_one [] E0 (tCons (tVar 0) (tCons (tVar 1) (tCons (tVar 2) tNil))))) (tRet (tC (.bl true))) tNext)
    (tSeq (tAsg (tCall s__law_lots [] E0 (tCons (tCall s__law_turned [] E0 (tCons (tVar 0) tNil)) (tCons (tVar 2) (tCons (tVar 1) tNil)))) (gName 3))
    (tSeq (tIfS (tTest (tOp rGtI (tCB (rLenS K) (tCons (tVar 3) tNil)) (tC (.int 1)))) (tRet (tOp (rEqD K) (tLc (iList K (tVar 3)) (gName 4) (tNot (tB (tCall s__law_told [] E0 (tCons (tVar 0) (tCons (tVar 1) (tCons (tVar 4) tNil)))))) (tVar 4) [4]) (tLst tNil))) tNext)
    (tSeq (tAsg (tCall s__law_lots [] E0 (tCons (tVar 0) (tCons (tVar 1) (tCons (tVar 2) tNil)))) (gName 3))
    (tRet (tAndV (tOp rGtI (tCB (rLenS K) (tCons (tVar 3) tNil)) (tC (.int 1))) (tOp (rEqD K) (tLc (iList K (tVar 3)) (gName 4) (tNot (tB (tCall s__law_told [] E0 (tCons (tVar 0) (tCons (tVar 4) (tCons (tVar 2) tNil)))))) (tVar 4) [4]) (tLst tNil))))))))
theorem d__law_told (B : Bi mg) (C : Co mg) (s__law_one : Sp) (s__law_turned : Sp) (s__law_lots : Sp) (s__law_told : Sp) (G__law_one : Fn P w K mg base k "_law_one" ["_law_table_here", "_law_rows", "_law_columns"] s__law_one) (G__law_turned : Fn P w K mg base k "_law_turned" ["_law_table_here"] s__law_turned) (G__law_lots : Fn P w K mg base k "_law_lots" ["_law_table_here", "_law_rows", "_law_columns"] s__law_lots) (G__law_told : Fn P w K mg base k "_law_told" ["_law_table_here", "_law_rows", "_law_columns"] s__law_told) {cdv : Value} {A : Around} {outer : List Env} {s : Shared} {H : Hp} {E : XK} (hr : Room k (A.deeper (PyProof.Rows.envOfC "_law_told" (defScope (top 40)) s.heap.objs.size f cdv))) :
    PSs (cxOf CX0 P w K mg base ["_law_table_here", "_law_rows", "_law_columns", "_law_lots_here", "_law_lot"] "_law_told" (defScope (top 40)) f cdv A outer s H E).nox (defBody (top 40)) (r__law_told K w s__law_one s__law_turned s__law_lots s__law_told) := by
    unfold r__law_told
    exact (pss_cons (ps_if (pt_val (xCall G__law_one hr (pa_cons (pv 0) (pa_cons (pv 1) (pa_cons (pv 2) pa_nil))))) (pss_one (ps_ret pe_bl)) pss_nil)
    (pss_cons (ps_set (i := 3) sc__law_told.nd rfl (by first | exact Or.inl rfl | exact Or.inr rfl) (xCall G__law_lots hr (pa_cons (xCall G__law_turned hr (pa_cons (pv 0) pa_nil)) (pa_cons (pv 2) (pa_cons (pv 1) pa_nil)))))
    (pss_cons (ps_if (pt_cmpR op_gt (xLen (rK K) B.len (pv 3)) pe_int (nomark _)) (pss_one (ps_ret (pe_cmpR (kEqD (rK K) hr.units) (pe_lc (own := [("_law_lot", 4)]) (g := (gName 4)) (tt := (tNot (tB (tCall s__law_told [] E0 (tCons (tVar 0) (tCons (tVar 1) (tCons (tVar 4) tNil))))))) (te := (tVar 4)) rfl sc__law_told.nd (kPiL (rK K) (pv 3)) (blkOk_by (by kernel_rfl)) (fun _ _ _ _ _ => by exact (pg_name (i := 4) sc__law_told.nd rfl (by first | exact Or.inl rfl | exact Or.inr rfl))) (fun _ _ _ _ _ => by exact (pts_one (pt_not (pt_val (xCall G__law_told hr (pa_cons (pv 0) (pa_cons (pv 1) (pa_cons (pv 4) pa_nil)))))))) (fun _ _ _ _ _ => by exact (pv 4))) (pe_lst pa_nil) (nomark _)))) pss_nil)
    (pss_cons (ps_set (i := 3) sc__law_told.nd rfl (by first | exact Or.inl rfl | exact Or.inr rfl) (xCall G__law_lots hr (pa_cons (pv 0) (pa_cons (pv 1) (pa_cons (pv 2) pa_nil)))))
    (pss_one (ps_ret (pe_and (pe_cmpR op_gt (xLen (rK K) B.len (pv 3)) pe_int (nomark _)) (pe_one (pe_cmpR (kEqD (rK K) hr.units) (pe_lc (own := [("_law_lot", 4)]) (g := (gName 4)) (tt := (tNot (tB (tCall s__law_told [] E0 (tCons (tVar 0) (tCons (tVar 4) (tCons (tVar 2) tNil))))))) (te := (tVar 4)) rfl sc__law_told.nd (kPiL (rK K) (pv 3)) (blkOk_by (by kernel_rfl)) (fun _ _ _ _ _ => by exact (pg_name (i := 4) sc__law_told.nd rfl (by first | exact Or.inl rfl | exact Or.inr rfl))) (fun _ _ _ _ _ => by exact (pts_one (pt_not (pt_val (xCall G__law_told hr (pa_cons (pv 0) (pa_cons (pv 4) (pa_cons (pv 2) pa_nil)))))))) (fun _ _ _ _ _ => by exact (pv 4))) (pe_lst pa_nil) (nomark _))))))))))
theorem sc__law_meets : FnScope ["_law_table_here", "_law_one_here", "_law_other", "_law_columns", "_law_y"] ["_law_table_here", "_law_one_here", "_law_other", "_law_columns"] (defScope (top 44)) := ⟨rfl, rfl, rfl, by decide +kernel, rfl, by decide +kernel, by decide +kernel⟩
/-- what _law_meets does -/
def r__law_meets (K : PySem.W.Frag) (w : World) : L2.TS :=
    (tRet (tOp (rNeD K) (tLc (iTup K (tVar 3)) (gName 4) (tTest (tOp rEq (tOp (rIxT K) (tOp (rIxT K) (tVar 0) (tVar 1)) (tVar 4)) (tOp (rIxT K) (tOp (rIxT K) (tVar 0) (tVar 2)) (tVar 4)))) (tVar 4) [4]) (tLst tNil)))
theorem d__law_meets (B : Bi mg) (C : Co mg) {cdv : Value} {A : Around} {outer : List Env} {s : Shared} {H : Hp} {E : XK} (hr : Room k (A.deeper (PyProof.Rows.envOfC "_law_meets" (defScope (top 44)) s.heap.objs.size f cdv))) :
    PSs (cxOf CX0 P w K mg base ["_law_table_here", "_law_one_here", "_law_other", "_law_columns", "_law_y"] "_law_meets" (defScope (top 44)) f cdv A outer s H E).nox (defBody (top 44)) (r__law_meets K w) := by
    unfold r__law_meets
    exact (pss_one (ps_ret (pe_cmpR (kNeD (rK K) hr.units) (pe_lc (own := [("_law_y", 4)]) (g := (gName 4)) (tt := (tTest (tOp rEq (tOp (rIxT K) (tOp (rIxT K) (tVar 0) (tVar 1)) (tVar 4)) (tOp (rIxT K) (tOp (rIxT K) (tVar 0) (tVar 2)) (tVar 4))))) (te := (tVar 4)) rfl sc__law_meets.nd (kPiT (rK K) (pv 3)) (blkOk_by (by kernel_rfl)) (fun _ _ _ _ _ => by exact (pg_name (i := 4) sc__law_meets.nd rfl (by first | exact Or.inl rfl | exact Or.inr rfl))) (fun _ _ _ _ _ => by exact (pts_one (pt_cmpR op_eq (xT (rK K) (xT (rK K) (pv 0) (pv 1)) (pv 4)) (xT (rK K) (xT (rK K) (pv 0) (pv 2)) (pv 4)) (nomark _)))) (fun _ _ _ _ _ => by exact (pv 4))) (pe_lst pa_nil) (nomark _))))
theorem sc__law_joined : FnScope ["_law_lots_here", "_law_found", "_law_lot"] ["_law_lots_here"] (defScope (top 45)) := ⟨rfl, rfl, rfl, by decide +kernel, rfl, by decide +kernel, by decide +kernel⟩
/-- what _law_joined does -/
def r__law_joined (K : PySem.W.Frag) (w : World) : L2.TS :=
    (tSeq (tAsg (tLst tNil) (gName 1))
    (tSeq (tFor (iTup K (tVar 0)) (gName 2) (tAsg (tOp (rCatL K) (tVar 1) (tCB (rListS K) (tCons (tVar 2) tNil))) (gName 1)))
    (tRet (tCB (rTupS K) (tCons (tCB (rSorted K) (tCons (tVar 1) tNil)) tNil)))))
theorem d__law_joined (B : Bi mg) (C : Co mg) {cdv : Value} {A : Around} {outer : List Env} {s : Shared} {H : Hp} {E : XK} (hr : Room k (A.deeper (PyProof.Rows.envOfC "_law_joined" (defScope (top 45)) s.heap.objs.size f cdv))) :
    PSs (cxOf CX0 P w K mg base ["_law_lots_here", "_law_found", "_law_lot"] "_law_joined" (defScope (top 45)) f cdv A outer s H E).nox (defBody (top 45)) (r__law_joined K w) := by
    unfold r__law_joined
    exact (pss_cons (ps_set (i := 1) sc__law_joined.nd rfl (by first | exact Or.inl rfl | exact Or.inr rfl) (pe_lst pa_nil))
    (pss_cons (ps_for PassesOwn.never rfl (kPiT (rK K) (pv 0)) (pg_name (i := 2) sc__law_joined.nd rfl (by first | exact Or.inl rfl | exact Or.inr rfl)) (pss_one (ps_set (i := 1) sc__law_joined.nd rfl (by first | exact Or.inl rfl | exact Or.inr rfl) (pe_op (kCatL (rK K)) (pv 1) (xList (rK K) B.list (pv 2))))))
    (pss_one (ps_ret (xTup (rK K) B.tuple (xSorted (rK K) B.sorted (pv 1)))))))
end
end K15
namespace K15
open PySem L2 Evl
section
variable {P : Program} {w : World} {K : PySem.W.Frag} {mg : Str → Option Value} {base : Heap} {f : Addr} {fd : FuncData} {k : Nat}
theorem sc__law_heaps : FnScope ["_law_row", "_law_things", "_law_most", "_law_heaps_here", "_law_at", "_law_thing", "_law_heap"] ["_law_row", "_law_things", "_law_most"] (defScope (top 41)) := ⟨rfl, rfl, rfl, by decide +kernel, rfl, by decide +kernel, by decide +kernel⟩
/-- what _law_heaps does -/
def r__law_heaps (K : PySem.W.Frag) (w : World) (s__law_taken : Sp) : L2.TS :=
    (tSeq (tAsg (tLc (iRng1 (tCons (tVar 2) tNil)) (gName 6) tYes (tLst tNil) [6]) (gName 3))
    (tSeq (tFor (iEnumT K (tCons (tVar 1) tNil)) (gTup K 2 (gCons (gName 4) (gCons (gName 5) gNil))) (tDrop (tBM K "list" rAppend (tOp (rIxL K) (tVar 3) (tIf (tTest (tOp rLtI (tVar 4) (tC (.int 2)))) (tVar 4) (tCall s__law_taken [] E0 (tCons (tVar 0) (tCons (tVar 2) tNil))))) (tCons (tVar 5) tNil))))
    (tRet (tLc (iList K (tVar 3)) (gName 6) (tTest (tOp (rNeD K) (tVar 6) (tLst tNil))) (tCB (rTupS K) (tCons (tVar 6) tNil)) [6]))))
theorem d__law_heaps (B : Bi mg) (C : Co mg) (s__law_taken : Sp) (G__law_taken : Fn P w K mg base k "_law_taken" ["_law_row", "_law_many"] s__law_taken) {cdv : Value} {A : Around} {outer : List Env} {s : Shared} {H : Hp} {E : XK} (hr : Room k (A.deeper (PyProof.Rows.envOfC "_law_heaps" (defScope (top 41)) s.heap.objs.size f cdv))) :
    PSs (cxOf CX0 P w K mg base ["_law_row", "_law_things", "_law_most", "_law_heaps_here", "_law_at", "_law_thing", "_law_heap"] "_law_heaps" (defScope (top 41)) f cdv A outer s H E).nox (defBody (top 41)) (r__law_heaps K w s__law_taken) := by
    unfold r__law_heaps
    exact (pss_cons (ps_setLc (i := 3) (own := [("_law_heap", 6)]) (g := (gName 6)) (tt := tYes) (te := (tLst tNil)) rfl sc__law_heaps.nd rfl rfl (sw_true rfl rfl rfl (by decide +kernel)) (pi_range1 rfl B.range (pa_cons (pv 2) pa_nil)) (blkOk_by (by kernel_rfl)) (fun _ _ _ _ _ => by exact (pg_name (i := 6) sc__law_heaps.nd rfl (by first | exact Or.inl rfl | exact Or.inr rfl))) (fun _ _ _ _ _ => by exact pts_nil) (fun _ _ _ _ _ => by exact (pe_lst pa_nil)))
    (pss_cons (ps_for PassesOwn.never rfl (kEnumT (rK K) rfl B.enumerate (pa_cons (pv 1) pa_nil)) (kTupT (rK K) rfl (pgs_cons (pg_name (i := 4) sc__law_heaps.nd rfl (by first | exact Or.inl rfl | exact Or.inr rfl)) (pgs_cons (pg_name (i := 5) sc__law_heaps.nd rfl (by first | exact Or.inl rfl | exact Or.inr rfl)) pgs_nil))) (pss_one (ps_expr (kAppend (rK K) (xL (rK K) (pv 3) (pe_ifExp (pt_cmpR op_lt (pv 4) pe_int (nomark _)) (pv 4) (xCall G__law_taken hr (pa_cons (pv 0) (pa_cons (pv 2) pa_nil))))) (pa_cons (pv 5) pa_nil)))))
    (pss_one (ps_ret (pe_lc (own := [("_law_heap", 6)]) (g := (gName 6)) (tt := (tTest (tOp (rNeD K) (tVar 6) (tLst tNil)))) (te := (tCB (rTupS K) (tCons (tVar 6) tNil))) rfl sc__law_heaps.nd (kPiL (rK K) (pv 3)) (blkOk_by (by kernel_rfl)) (fun _ _ _ _ _ => by exact (pg_name (i := 6) sc__law_heaps.nd rfl (by first | exact Or.inl rfl | exact Or.inr rfl))) (fun _ _ _ _ _ => by exact (pts_one (pt_cmpR (kNeD (rK K) hr.units) (pv 6) (pe_lst pa_nil) (nomark _)))) (fun _ _ _ _ _ => by exact (xTup (rK K) B.tuple (pv 6))))))))
theorem sc__law_woven : FnScope ["_law_row", "_law_table_here", "_law_rows", "_law_columns", "_law_free", "_law_way", "_law_heap", "_law_x", "_law_y"] ["_law_row", "_law_table_here", "_law_rows", "_law_columns", "_law_free"] (defScope (top 42)) := ⟨rfl, rfl, rfl, by decide +kernel, rfl, by decide +kernel, by decide +kernel⟩
/-- what _law_woven does -/
def r__law_woven (K : PySem.W.Frag) (w : World) (s__law_taken : Sp) (s__law_heaps : Sp) (s__law_woven : Sp) : L2.TS :=
    (tSeq (tAsg (tCall s__law_taken [] E0 (tCons (tVar 0) (tCons (tC (.int 5)) tNil))) (gName 5))
    (tIfS (tAnd (tTest (tOp rLtI (tVar 5) (tC (.int 2)))) (tTest (tOp rGtI (tCB (rLenS K) (tCons (tVar 2) tNil)) (tC (.int 1))))) (tFor (iList K (tCall s__law_heaps [] E0 (tCons (tVar 0) (tCons (tVar 2) (tCons (tC (.int 3)) tNil))))) (gName 6) (tDrop (tCall s__law_woven [] E0 (tCons (tVar 0) (tCons (tVar 1) (tCons (tVar 6) (tCons (tVar 3) (tCons (tVar 4) tNil)))))))) (tIfS (tAnd (tTest (tOp rLtI (tVar 5) (tC (.int 4)))) (tTest (tOp rGtI (tCB (rLenS K) (tCons (tVar 3) tNil)) (tC (.int 1))))) (tFor (iList K (tCall s__law_heaps [] E0 (tCons (tVar 0) (tCons (tVar 3) (tCons (tC (.int 3)) tNil))))) (gName 6) (tDrop (tCall s__law_woven [] E0 (tCons (tVar 0) (tCons (tVar 1) (tCons (tVar 2) (tCons (tVar 6) (tCons (tVar 4) tNil)))))))) (tSeq (tDrop (tBM K "list" rAppend (tVar 4) (tCons (tCB (rLenS K) (tCons (tVar 4) tNil)) tNil)))
    (tFor (iTup K (tVar 2)) (gName 7) (tFor (iTup K (tVar 3)) (gName 8) (sDPut (tVar 1) (tTup (tCons (tVar 7) (tCons (tVar 8) tNil))) (tOp rSubI (tCB (rLenS K) (tCons (tVar 4) tNil)) (tC (.int 1))))))))))
theorem d__law_woven (B : Bi mg) (C : Co mg) (s__law_taken : Sp) (s__law_heaps : Sp) (s__law_woven : Sp) (G__law_taken : Fn P w K mg base k "_law_taken" ["_law_row", "_law_many"] s__law_taken) (G__law_heaps : Fn P w K mg base k "_law_heaps" ["_law_row", "_law_things", "_law_most"] s__law_heaps) (G__law_woven : Fn P w K mg base k "_law_woven" ["_law_row", "_law_table_here", "_law_rows", "_law_columns", "_law_free"] s__law_woven) {cdv : Value} {A : Around} {outer : List Env} {s : Shared} {H : Hp} {E : XK} (hr : Room k (A.deeper (PyProof.Rows.envOfC "_law_woven" (defScope (top 42)) s.heap.objs.size f cdv))) :
    PSs (cxOf CX0 P w K mg base ["_law_row", "_law_table_here", "_law_rows", "_law_columns", "_law_free", "_law_way", "_law_heap", "_law_x", "_law_y"] "_law_woven" (defScope (top 42)) f cdv A outer s H E).nox (defBody (top 42)) (r__law_woven K w s__law_taken s__law_heaps s__law_woven) := by
    unfold r__law_woven
    exact (pss_cons (ps_set (i := 5) sc__law_woven.nd rfl (by first | exact Or.inl rfl | exact Or.inr rfl) (xCall G__law_taken hr (pa_cons (pv 0) (pa_cons pe_int pa_nil))))
    (pss_one (ps_if (PW.pt (pw_and (pt_cmpR op_lt (pv 5) pe_int (nomark _)) (pw_and1 (pt_cmpR op_gt (xLen (rK K) B.len (pv 2)) pe_int (nomark _))))) (pss_one (ps_for PassesOwn.never rfl (kPiL (rK K) (xCall G__law_heaps hr (pa_cons (pv 0) (pa_cons (pv 2) (pa_cons pe_int pa_nil))))) (pg_name (i := 6) sc__law_woven.nd rfl (by first | exact Or.inl rfl | exact Or.inr rfl)) (pss_one (ps_expr (xCall G__law_woven hr (pa_cons (pv 0) (pa_cons (pv 1) (pa_cons (pv 6) (pa_cons (pv 3) (pa_cons (pv 4) pa_nil)))))))))) (pss_one (ps_if (PW.pt (pw_and (pt_cmpR op_lt (pv 5) pe_int (nomark _)) (pw_and1 (pt_cmpR op_gt (xLen (rK K) B.len (pv 3)) pe_int (nomark _))))) (pss_one (ps_for PassesOwn.never rfl (kPiL (rK K) (xCall G__law_heaps hr (pa_cons (pv 0) (pa_cons (pv 3) (pa_cons pe_int pa_nil))))) (pg_name (i := 6) sc__law_woven.nd rfl (by first | exact Or.inl rfl | exact Or.inr rfl)) (pss_one (ps_expr (xCall G__law_woven hr (pa_cons (pv 0) (pa_cons (pv 1) (pa_cons (pv 2) (pa_cons (pv 6) (pa_cons (pv 4) pa_nil)))))))))) (pss_cons (ps_expr (kAppend (rK K) (pv 4) (pa_cons (xLen (rK K) B.len (pv 4)) pa_nil)))
    (pss_one (ps_for PassesOwn.never rfl (kPiT (rK K) (pv 2)) (pg_name (i := 7) sc__law_woven.nd rfl (by first | exact Or.inl rfl | exact Or.inr rfl)) (pss_one (ps_for PassesOwn.never rfl (kPiT (rK K) (pv 3)) (pg_name (i := 8) sc__law_woven.nd rfl (by first | exact Or.inl rfl | exact Or.inr rfl)) (pss_one (ps_dput (hu_of hr) (pv 1) (pe_tup (pa_cons (pv 7) (pa_cons (pv 8) pa_nil))) (pe_op op_sub (xLen (rK K) B.len (pv 4)) pe_int) rfl))))))))))))
theorem sc__law_told_table : FnScope ["_law_row", "_law_high", "_law_wide", "_law_table_here", "_law_turn", "_law_rows", "_law_columns", "_law_cells", "_law_free", "_law_near", "_law_one_here", "_law_other", "_law_x", "_law_line", "_law_y", "_law_answer"] ["_law_row", "_law_high", "_law_wide"] (defScope (top 43)) := ⟨rfl, rfl, rfl, by decide +kernel, rfl, by decide +kernel, by decide +kernel⟩
/-- what _law_told_table does -/
def r__law_told_table (K : PySem.W.Frag) (w : World) (s__law_taken : Sp) (s__law_woven : Sp) (s__law_told : Sp) : L2.TS :=
    (tSeq (tAsg (tTup (tCons (tTupRg (tRg1 (tOp rAddI (tC (.int 1)) (tCall s__law_taken [] E0 (tCons (tVar 0) (tCons (tVar 1) tNil)))))) (tCons (tTupRg (tRg1 (tOp rAddI (tC (.int 1)) (tCall s__law_taken [] E0 (tCons (tVar 0) (tCons (tVar 2) tNil)))))) tNil))) (gTup K 2 (gCons (gName 5) (gCons (gName 6) gNil))))
    (tSeq (tAsg (tTup (tCons tDNewT (tCons (tLst tNil) tNil))) (gTup K 2 (gCons (gName 7) (gCons (gName 8) gNil))))
    (tSeq (tDrop (tCall s__law_woven [] E0 (tCons (tVar 0) (tCons (tVar 7) (tCons (tVar 5) (tCons (tVar 6) (tCons (tVar 8) tNil)))))))
    (tSeq (tAsg (tCB (rTupS K) (tCons (tLc (iTup K (tVar 5)) (gName 12) tYes (tCB (rTupS K) (tCons (tLc (iTup K (tVar 6)) (gName 14) tYes (tDGet (tVar 7) (tTup (tCons (tVar 12) (tCons (tVar 14) tNil)))) [14]) tNil)) [12]) tNil)) (gName 3))
    (tSeq (tFor (iRng1 (tCons (tCall s__law_taken [] E0 (tCons (tVar 0) (tCons (tC (.int 4)) tNil))) tNil)) (gName 4) (tSeq (tAsg (tTup (tCons (tCall s__law_taken [] E0 (tCons (tVar 0) (tCons (tCB (rLenS K) (tCons (tVar 8) tNil)) tNil))) (tCons (tCall s__law_taken [] E0 (tCons (tVar 0) (tCons (tCB (rLenS K) (tCons (tVar 8) tNil)) tNil))) tNil))) (gTup K 2 (gCons (gName 10) (gCons (gName 11) gNil))))
    (tSeq (tAsg (tCB (rTupS K) (tCons (tLc (iTup K (tVar 3)) (gName 13) tYes (tCB (rTupS K) (tCons (tLc (iTup K (tVar 13)) (gName 15) tYes (tIf (tTest (tOp rEq (tVar 15) (tVar 11))) (tVar 10) (tVar 15)) [15]) tNil)) [13]) tNil)) (gName 9))
    (tAsg (tIf (tB (tCall s__law_told [] E0 (tCons (tVar 9) (tCons (tVar 5) (tCons (tVar 6) tNil))))) (tVar 9) (tVar 3)) (gName 3)))))
    (tRet (tVar 3)))))))
theorem d__law_told_table (B : Bi mg) (C : Co mg) (s__law_taken : Sp) (s__law_woven : Sp) (s__law_told : Sp) (G__law_taken : Fn P w K mg base k "_law_taken" ["_law_row", "_law_many"] s__law_taken) (G__law_woven : Fn P w K mg base k "_law_woven" ["_law_row", "_law_table_here", "_law_rows", "_law_columns", "_law_free"] s__law_woven) (G__law_told : Fn P w K mg base k "_law_told" ["_law_table_here", "_law_rows", "_law_columns"] s__law_told) {cdv : Value} {A : Around} {outer : List Env} {s : Shared} {H : Hp} {E : XK} (hr : Room k (A.deeper (PyProof.Rows.envOfC "_law_told_table" (defScope (top 43)) s.heap.objs.size f cdv))) :
    PSs (cxOf CX0 P w K mg base ["_law_row", "_law_high", "_law_wide", "_law_table_here", "_law_turn", "_law_rows", "_law_columns", "_law_cells", "_law_free", "_law_near", "_law_one_here", "_law_other", "_law_x", "_law_line", "_law_y", "_law_answer"] "_law_told_table" (defScope (top 43)) f cdv A outer s H E).nox (defBody (top 43)) (r__law_told_table K w s__law_taken s__law_woven s__law_told) := by
    unfold r__law_told_table
    exact (pss_cons (ps_asg (pe_tup (pa_cons (pe_tupRg rfl rfl B.tuple (prg_1 rfl B.range (pe_op op_add pe_int (xCall G__law_taken hr (pa_cons (pv 0) (pa_cons (pv 1) pa_nil)))))) (pa_cons (pe_tupRg rfl rfl B.tuple (prg_1 rfl B.range (pe_op op_add pe_int (xCall G__law_taken hr (pa_cons (pv 0) (pa_cons (pv 2) pa_nil)))))) pa_nil))) (kTupT (rK K) rfl (pgs_cons (pg_name (i := 5) sc__law_told_table.nd rfl (by first | exact Or.inl rfl | exact Or.inr rfl)) (pgs_cons (pg_name (i := 6) sc__law_told_table.nd rfl (by first | exact Or.inl rfl | exact Or.inr rfl)) pgs_nil))))
    (pss_cons (ps_asg (pe_tup (pa_cons pe_dnewT (pa_cons (pe_lst pa_nil) pa_nil))) (kTupT (rK K) rfl (pgs_cons (pg_name (i := 7) sc__law_told_table.nd rfl (by first | exact Or.inl rfl | exact Or.inr rfl)) (pgs_cons (pg_name (i := 8) sc__law_told_table.nd rfl (by first | exact Or.inl rfl | exact Or.inr rfl)) pgs_nil))))
    (pss_cons (ps_expr (xCall G__law_woven hr (pa_cons (pv 0) (pa_cons (pv 7) (pa_cons (pv 5) (pa_cons (pv 6) (pa_cons (pv 8) pa_nil)))))))
    (pss_cons (ps_set (i := 3) sc__law_told_table.nd rfl (by first | exact Or.inl rfl | exact Or.inr rfl) (xTup (rK K) B.tuple (pe_lc (own := [("_law_x", 12)]) (g := (gName 12)) (tt := tYes) (te := (tCB (rTupS K) (tCons (tLc (iTup K (tVar 6)) (gName 14) tYes (tDGet (tVar 7) (tTup (tCons (tVar 12) (tCons (tVar 14) tNil)))) [14]) tNil))) rfl sc__law_told_table.nd (kPiT (rK K) (pv 5)) (blkOk_by (by kernel_rfl)) (fun _ _ _ _ _ => by exact (pg_name (i := 12) sc__law_told_table.nd rfl (by first | exact Or.inl rfl | exact Or.inr rfl))) (fun _ _ _ _ _ => by exact pts_nil) (fun _ _ _ _ _ => by exact (xTup (rK K) B.tuple (pe_lc (own := [("_law_y", 14)]) (g := (gName 14)) (tt := tYes) (te := (tDGet (tVar 7) (tTup (tCons (tVar 12) (tCons (tVar 14) tNil))))) rfl sc__law_told_table.nd (kPiT (rK K) (pv 6)) (blkOk_by (by kernel_rfl)) (fun _ _ _ _ _ => by exact (pg_name (i := 14) sc__law_told_table.nd rfl (by first | exact Or.inl rfl | exact Or.inr rfl))) (fun _ _ _ _ _ => by exact pts_nil) (fun _ _ _ _ _ => by exact (pe_dget (hu_of hr) (pv 7) (pe_tup (pa_cons (pv 12) (pa_cons (pv 14) pa_nil))) (fun _ _ => rfl)))))))))
    (pss_cons (ps_for PassesOwn.never rfl (pi_range1 rfl B.range (pa_cons (xCall G__law_taken hr (pa_cons (pv 0) (pa_cons pe_int pa_nil))) pa_nil)) (pg_name (i := 4) sc__law_told_table.nd rfl (by first | exact Or.inl rfl | exact Or.inr rfl)) (pss_cons (ps_asg (pe_tup (pa_cons (xCall G__law_taken hr (pa_cons (pv 0) (pa_cons (xLen (rK K) B.len (pv 8)) pa_nil))) (pa_cons (xCall G__law_taken hr (pa_cons (pv 0) (pa_cons (xLen (rK K) B.len (pv 8)) pa_nil))) pa_nil))) (kTupT (rK K) rfl (pgs_cons (pg_name (i := 10) sc__law_told_table.nd rfl (by first | exact Or.inl rfl | exact Or.inr rfl)) (pgs_cons (pg_name (i := 11) sc__law_told_table.nd rfl (by first | exact Or.inl rfl | exact Or.inr rfl)) pgs_nil))))
    (pss_cons (ps_set (i := 9) sc__law_told_table.nd rfl (by first | exact Or.inl rfl | exact Or.inr rfl) (xTup (rK K) B.tuple (pe_lc (own := [("_law_line", 13)]) (g := (gName 13)) (tt := tYes) (te := (tCB (rTupS K) (tCons (tLc (iTup K (tVar 13)) (gName 15) tYes (tIf (tTest (tOp rEq (tVar 15) (tVar 11))) (tVar 10) (tVar 15)) [15]) tNil))) rfl sc__law_told_table.nd (kPiT (rK K) (pv 3)) (blkOk_by (by kernel_rfl)) (fun _ _ _ _ _ => by exact (pg_name (i := 13) sc__law_told_table.nd rfl (by first | exact Or.inl rfl | exact Or.inr rfl))) (fun _ _ _ _ _ => by exact pts_nil) (fun _ _ _ _ _ => by exact (xTup (rK K) B.tuple (pe_lc (own := [("_law_answer", 15)]) (g := (gName 15)) (tt := tYes) (te := (tIf (tTest (tOp rEq (tVar 15) (tVar 11))) (tVar 10) (tVar 15))) rfl sc__law_told_table.nd (kPiT (rK K) (pv 13)) (blkOk_by (by kernel_rfl)) (fun _ _ _ _ _ => by exact (pg_name (i := 15) sc__law_told_table.nd rfl (by first | exact Or.inl rfl | exact Or.inr rfl))) (fun _ _ _ _ _ => by exact pts_nil) (fun _ _ _ _ _ => by exact (pe_ifExp (pt_cmpR op_eq (pv 15) (pv 11) (nomark _)) (pv 10) (pv 15)))))))))
    (pss_one (ps_set (i := 3) sc__law_told_table.nd rfl (by first | exact Or.inl rfl | exact Or.inr rfl) (pe_ifExp (pt_val (xCall G__law_told hr (pa_cons (pv 9) (pa_cons (pv 5) (pa_cons (pv 6) pa_nil))))) (pv 9) (pv 3)))))))
    (pss_one (ps_ret (pv 3))))))))
theorem sc__law_all_lots : FnScope ["_law_answers", "_law_found", "_law_answer", "_law_later", "_law_lots_here", "_law_at"] ["_law_answers"] (defScope (top 46)) := ⟨rfl, rfl, rfl, by decide +kernel, rfl, by decide +kernel, by decide +kernel⟩
/-- what _law_all_lots does -/
def r__law_all_lots (K : PySem.W.Frag) (w : World) : L2.TS :=
    (tSeq (tAsg (tLst (tCons (tTup tNil) tNil)) (gName 1))
    (tSeq (tFor (iList K (tVar 0)) (gName 2) (tSeq (tAsg (tLst tNil) (gName 3))
    (tSeq (tFor (iList K (tVar 1)) (gName 4) (tSeq (tDrop (tBM K "list" rAppend (tVar 3) (tCons (tOp (rCatA K) (tVar 4) (tTup (tCons (tTup (tCons (tVar 2) tNil)) tNil))) tNil)))
    (tAsg (tOp (rCatL K) (tVar 3) (tLc (iRng1 (tCons (tCB (rLenS K) (tCons (tVar 4) tNil)) tNil)) (gName 5) tYes (tOp (rCatA K) (tOp (rCatA K) (tSl (rSlA K) (tVar 4) tNoPart (tPart (tVar 5))) (tTup (tCons (tOp (rCatA K) (tOp (rIxT K) (tVar 4) (tVar 5)) (tTup (tCons (tVar 2) tNil))) tNil))) (tSl (rSlA K) (tVar 4) (tPart (tOp rAddI (tVar 5) (tC (.int 1)))) tNoPart)) [5])) (gName 3))))
    (tAsg (tVar 3) (gName 1)))))
    (tRet (tVar 1))))
theorem d__law_all_lots (B : Bi mg) (C : Co mg) {cdv : Value} {A : Around} {outer : List Env} {s : Shared} {H : Hp} {E : XK} (hr : Room k (A.deeper (PyProof.Rows.envOfC "_law_all_lots" (defScope (top 46)) s.heap.objs.size f cdv))) :
    PSs (cxOf CX0 P w K mg base ["_law_answers", "_law_found", "_law_answer", "_law_later", "_law_lots_here", "_law_at"] "_law_all_lots" (defScope (top 46)) f cdv A outer s H E).nox (defBody (top 46)) (r__law_all_lots K w) := by
    unfold r__law_all_lots
    exact (pss_cons (ps_set (i := 1) sc__law_all_lots.nd rfl (by first | exact Or.inl rfl | exact Or.inr rfl) (pe_lst (pa_cons (pe_tup pa_nil) pa_nil)))
    (pss_cons (ps_for PassesOwn.never rfl (kPiL (rK K) (pv 0)) (pg_name (i := 2) sc__law_all_lots.nd rfl (by first | exact Or.inl rfl | exact Or.inr rfl)) (pss_cons (ps_set (i := 3) sc__law_all_lots.nd rfl (by first | exact Or.inl rfl | exact Or.inr rfl) (pe_lst pa_nil))
    (pss_cons (ps_for PassesOwn.never rfl (kPiL (rK K) (pv 1)) (pg_name (i := 4) sc__law_all_lots.nd rfl (by first | exact Or.inl rfl | exact Or.inr rfl)) (pss_cons (ps_expr (kAppend (rK K) (pv 3) (pa_cons (pe_op (kCat (rK K)) (pv 4) (pe_tup (pa_cons (pe_tup (pa_cons (pv 2) pa_nil)) pa_nil))) pa_nil)))
    (pss_one (ps_set (i := 3) sc__law_all_lots.nd rfl (by first | exact Or.inl rfl | exact Or.inr rfl) (pe_op (kCatL (rK K)) (pv 3) (pe_lc (own := [("_law_at", 5)]) (g := (gName 5)) (tt := tYes) (te := (tOp (rCatA K) (tOp (rCatA K) (tSl (rSlA K) (tVar 4) tNoPart (tPart (tVar 5))) (tTup (tCons (tOp (rCatA K) (tOp (rIxT K) (tVar 4) (tVar 5)) (tTup (tCons (tVar 2) tNil))) tNil))) (tSl (rSlA K) (tVar 4) (tPart (tOp rAddI (tVar 5) (tC (.int 1)))) tNoPart))) rfl sc__law_all_lots.nd (pi_range1 rfl B.range (pa_cons (xLen (rK K) B.len (pv 4)) pa_nil)) (blkOk_by (by kernel_rfl)) (fun _ _ _ _ _ => by exact (pg_name (i := 5) sc__law_all_lots.nd rfl (by first | exact Or.inl rfl | exact Or.inr rfl))) (fun _ _ _ _ _ => by exact pts_nil) (fun _ _ _ _ _ => by exact (pe_op (kCat (rK K)) (pe_op (kCat (rK K)) (pe_slice (kSlT (rK K)) (pv 4) po_none (po_some (pv 5))) (pe_tup (pa_cons (pe_op (kCat (rK K)) (xT (rK K) (pv 4) (pv 5)) (pe_tup (pa_cons (pv 2) pa_nil))) pa_nil))) (pe_slice (kSlT (rK K)) (pv 4) (po_some (pe_op op_add (pv 5) pe_int)) po_none)))))))))
    (pss_one (ps_set (i := 1) sc__law_all_lots.nd rfl (by first | exact Or.inl rfl | exact Or.inr rfl) (pv 3))))))
    (pss_one (ps_ret (pv 1)))))
theorem sc__law_blurred : FnScope ["_law_table_here", "_law_lots_here", "_law_heads", "_law_lot", "_law_answer", "_law_line"] ["_law_table_here", "_law_lots_here"] (defScope (top 47)) := ⟨rfl, rfl, rfl, by decide +kernel, rfl, by decide +kernel, by decide +kernel⟩
/-- what _law_blurred does -/
def r__law_blurred (K : PySem.W.Frag) (w : World) : L2.TS :=
    (tSeq (tAsg tDNewK (gName 2))
    (tSeq (tFor (iTup K (tVar 1)) (gName 3) (tFor (iTup K (tVar 3)) (gName 4) (sDPut (tVar 2) (tVar 4) (tOp (rIxT K) (tVar 3) (tC (.int 0))))))
    (tRet (tCB (rTupS K) (tCons (tLc (iTup K (tVar 0)) (gName 5) tYes (tCB (rTupS K) (tCons (tLc (iTup K (tVar 5)) (gName 4) tYes (tDGet (tVar 2) (tVar 4)) [4]) tNil)) [5]) tNil)))))
theorem d__law_blurred (B : Bi mg) (C : Co mg) {cdv : Value} {A : Around} {outer : List Env} {s : Shared} {H : Hp} {E : XK} (hr : Room k (A.deeper (PyProof.Rows.envOfC "_law_blurred" (defScope (top 47)) s.heap.objs.size f cdv))) :
    PSs (cxOf CX0 P w K mg base ["_law_table_here", "_law_lots_here", "_law_heads", "_law_lot", "_law_answer", "_law_line"] "_law_blurred" (defScope (top 47)) f cdv A outer s H E).nox (defBody (top 47)) (r__law_blurred K w) := by
    unfold r__law_blurred
    exact (pss_cons (ps_set (i := 2) sc__law_blurred.nd rfl (by first | exact Or.inl rfl | exact Or.inr rfl) pe_dnewK)
    (pss_cons (ps_for PassesOwn.never rfl (kPiT (rK K) (pv 1)) (pg_name (i := 3) sc__law_blurred.nd rfl (by first | exact Or.inl rfl | exact Or.inr rfl)) (pss_one (ps_for PassesOwn.never rfl (kPiT (rK K) (pv 3)) (pg_name (i := 4) sc__law_blurred.nd rfl (by first | exact Or.inl rfl | exact Or.inr rfl)) (pss_one (ps_dput (hu_of hr) (pv 2) (pv 4) (xT (rK K) (pv 3) pe_int) rfl)))))
    (pss_one (ps_ret (xTup (rK K) B.tuple (pe_lc (own := [("_law_line", 5)]) (g := (gName 5)) (tt := tYes) (te := (tCB (rTupS K) (tCons (tLc (iTup K (tVar 5)) (gName 4) tYes (tDGet (tVar 2) (tVar 4)) [4]) tNil))) rfl sc__law_blurred.nd (kPiT (rK K) (pv 0)) (blkOk_by (by kernel_rfl)) (fun _ _ _ _ _ => by exact (pg_name (i := 5) sc__law_blurred.nd rfl (by first | exact Or.inl rfl | exact Or.inr rfl))) (fun _ _ _ _ _ => by exact pts_nil) (fun _ _ _ _ _ => by exact (xTup (rK K) B.tuple (pe_lc (own := [("_law_answer", 4)]) (g := (gName 4)) (tt := tYes) (te := (tDGet (tVar 2) (tVar 4))) rfl sc__law_blurred.nd (kPiT (rK K) (pv 5)) (blkOk_by (by kernel_rfl)) (fun _ _ _ _ _ => by exact (pg_name (i := 4) sc__law_blurred.nd rfl (by first | exact Or.inl rfl | exact Or.inr rfl))) (fun _ _ _ _ _ => by exact pts_nil) (fun _ _ _ _ _ => by exact (pe_dget (hu_of hr) (pv 2) (pv 4) (fun _ _ => rfl))))))))))))
theorem sc_law : FnScope ["_law_script", "_law_row", "_law_table_here", "_law_answers", "_law_some", "_law_lots_here", "_law_fine", "_law_rows", "_law_columns"] ["_law_script"] (defScope (top 48)) := ⟨rfl, rfl, rfl, by decide +kernel, rfl, by decide +kernel, by decide +kernel⟩
/-- what law does -/
def r_law (K : PySem.W.Frag) (w : World) (s__law_taken : Sp) (s__law_table : Sp) (s__law_told_table : Sp) (s__law_whole : Sp) (s__law_joined : Sp) (s__law_all_lots : Sp) (s__law_pick : Sp) (s__law_blurred : Sp) (s_blurred : Sp) (s__law_alike : Sp) (s__law_told : Sp) (s_finest_blur : Sp) (s_can_be_told : Sp) : L2.TS :=
    (tSeq (tAsg (tLst (tCons (tVar 0) (tCons (tC (.int 0)) (tCons (tC (.int 7715)) (tCons (tC (.int 0)) tNil))))) (gName 1))
    (tSeq (tAsg (tIf (tTest (tOp rGtI (tCall s__law_taken [] E0 (tCons (tVar 1) (tCons (tC (.int 3)) tNil))) (tC (.int 0)))) (tCall s__law_table [] E0 (tCons (tVar 1) (tCons (tC (.int 4)) (tCons (tC (.int 4)) (tCons (tC (.int 5)) tNil))))) (tCall s__law_told_table [] E0 (tCons (tVar 1) (tCons (tC (.int 4)) (tCons (tC (.int 4)) tNil))))) (gName 2))
    (tSeq (tAsg (tCall s__law_whole [] E0 (tCons (tVar 2) tNil)) (gTup K 2 (gCons (gName 7) (gCons (gName 8) gNil))))
    (tSeq (tAsg (tSetS K w true (tCall s__law_joined [] E0 (tCons (tVar 2) tNil))) (gName 3))
    (tSeq (tIfS (tTest (tOp rGtI (tCB (rLenS K) (tCons (tVar 3) tNil)) (tC (.int 6)))) (tRet (tC (.bl true))) tNext)
    (tSeq (tAsg (tCall s__law_all_lots [] E0 (tCons (tVar 3) tNil)) (gName 4))
    (tSeq (tAsg (tCall s__law_pick [] E0 (tCons (tVar 1) (tCons (tVar 4) tNil))) (gName 5))
    (tSeq (tIfS (tNot (tB (tCall s__law_alike [] E0 (tCons (tCall s_blurred [] E0 (tCons (tVar 2) (tCons (tVar 5) tNil))) (tCons (tCall s__law_blurred [] E0 (tCons (tVar 2) (tCons (tVar 5) tNil))) tNil))))) (tRet (tC (.bl false))) tNext)
    (tSeq (tAsg (tLc (iList K (tVar 4)) (gName 5) (tB (tCall s__law_told [] E0 (tCons (tCall s__law_blurred [] E0 (tCons (tVar 2) (tCons (tVar 5) tNil))) (tCons (tVar 7) (tCons (tVar 8) tNil))))) (tTup (tCons (tOp rSubI (tC (.int 0)) (tCB (rLenS K) (tCons (tVar 5) tNil))) (tCons (tVar 5) tNil))) [5]) (gName 6))
    (tSeq (tIfS (tNot (tB (tCall s__law_alike [] E0 (tCons (tCall s_finest_blur [] E0 (tCons (tVar 2) tNil)) (tCons (tOp (rIxT K) (tCB (rMinD K) (tCons (tVar 6) tNil)) (tC (.int 1))) tNil))))) (tRet (tC (.bl false))) tNext)
    (tRet (tAndV (tOp rIsB (tCall s_can_be_told [] E0 (tCons (tCall s_blurred [] E0 (tCons (tVar 2) (tCons (tCall s_finest_blur [] E0 (tCons (tVar 2) tNil)) tNil))) tNil)) (tC (.bl true))) (tOp rEq (tCall s_can_be_told [] E0 (tCons (tVar 2) tNil)) (tOp rEq (tCB (rLenS K) (tCons (tCall s_finest_blur [] E0 (tCons (tVar 2) tNil)) tNil)) (tCB (rLenS K) (tCons (tVar 3) tNil))))))))))))))))
theorem d_law (B : Bi mg) (C : Co mg) (s__law_taken : Sp) (s__law_table : Sp) (s__law_told_table : Sp) (s__law_whole : Sp) (s__law_joined : Sp) (s__law_all_lots : Sp) (s__law_pick : Sp) (s__law_blurred : Sp) (s_blurred : Sp) (s__law_alike : Sp) (s__law_told : Sp) (s_finest_blur : Sp) (s_can_be_told : Sp) (G__law_taken : Fn P w K mg base k "_law_taken" ["_law_row", "_law_many"] s__law_taken) (G__law_table : Fn P w K mg base k "_law_table" ["_law_row", "_law_high", "_law_wide", "_law_many"] s__law_table) (G__law_told_table : Fn P w K mg base k "_law_told_table" ["_law_row", "_law_high", "_law_wide"] s__law_told_table) (G__law_whole : Fn P w K mg base k "_law_whole" ["_law_table_here"] s__law_whole) (G__law_joined : Fn P w K mg base k "_law_joined" ["_law_lots_here"] s__law_joined) (G__law_all_lots : Fn P w K mg base k "_law_all_lots" ["_law_answers"] s__law_all_lots) (G__law_pick : Fn P w K mg base k "_law_pick" ["_law_row", "_law_things"] s__law_pick) (G__law_blurred : Fn P w K mg base k "_law_blurred" ["_law_table_here", "_law_lots_here"] s__law_blurred) (G_blurred : Fn P w K mg base k "blurred" ["table", "lots"] s_blurred) (G__law_alike : Fn P w K mg base k "_law_alike" ["_law_found", "_law_due"] s__law_alike) (G__law_told : Fn P w K mg base k "_law_told" ["_law_table_here", "_law_rows", "_law_columns"] s__law_told) (G_finest_blur : Fn P w K mg base k "finest_blur" ["table"] s_finest_blur) (G_can_be_told : Fn P w K mg base k "can_be_told" ["table"] s_can_be_told) {cdv : Value} {A : Around} {outer : List Env} {s : Shared} {H : Hp} {E : XK} (hr : Room k (A.deeper (PyProof.Rows.envOfC "law" (defScope (top 48)) s.heap.objs.size f cdv))) :
    PSs (cxOf CX0 P w K mg base ["_law_script", "_law_row", "_law_table_here", "_law_answers", "_law_some", "_law_lots_here", "_law_fine", "_law_rows", "_law_columns"] "law" (defScope (top 48)) f cdv A outer s H E).nox (defBody (top 48)) (r_law K w s__law_taken s__law_table s__law_told_table s__law_whole s__law_joined s__law_all_lots s__law_pick s__law_blurred s_blurred s__law_alike s__law_told s_finest_blur s_can_be_told) := by
    unfold r_law
    exact (pss_cons (ps_set (i := 1) sc_law.nd rfl (by first | exact Or.inl rfl | exact Or.inr rfl) (pe_lst (pa_cons (pv 0) (pa_cons pe_int (pa_cons pe_int (pa_cons pe_int pa_nil))))))
    (pss_cons (ps_set (i := 2) sc_law.nd rfl (by first | exact Or.inl rfl | exact Or.inr rfl) (pe_ifExp (pt_cmpR op_gt (xCall G__law_taken hr (pa_cons (pv 1) (pa_cons pe_int pa_nil))) pe_int (nomark _)) (xCall G__law_table hr (pa_cons (pv 1) (pa_cons pe_int (pa_cons pe_int (pa_cons pe_int pa_nil))))) (xCall G__law_told_table hr (pa_cons (pv 1) (pa_cons pe_int (pa_cons pe_int pa_nil))))))
    (pss_cons (ps_asg (xCall G__law_whole hr (pa_cons (pv 2) pa_nil)) (kTupT (rK K) rfl (pgs_cons (pg_name (i := 7) sc_law.nd rfl (by first | exact Or.inl rfl | exact Or.inr rfl)) (pgs_cons (pg_name (i := 8) sc_law.nd rfl (by first | exact Or.inl rfl | exact Or.inr rfl)) pgs_nil))))
    (pss_cons (ps_set (i := 3) sc_law.nd rfl (by first | exact Or.inl rfl | exact Or.inr rfl) (xSetS (rK K) (rW w) true rfl B.sorted B.set (xCall G__law_joined hr (pa_cons (pv 2) pa_nil))))
    (pss_cons (ps_if (pt_cmpR op_gt (xLen (rK K) B.len (pv 3)) pe_int (nomark _)) (pss_one (ps_ret pe_bl)) pss_nil)
    (pss_cons (ps_set (i := 4) sc_law.nd rfl (by first | exact Or.inl rfl | exact Or.inr rfl) (xCall G__law_all_lots hr (pa_cons (pv 3) pa_nil)))
    (pss_cons (ps_set (i := 5) sc_law.nd rfl (by first | exact Or.inl rfl | exact Or.inr rfl) (xCall G__law_pick hr (pa_cons (pv 1) (pa_cons (pv 4) pa_nil))))
    (pss_cons (ps_if (pt_not (pt_val (xCall G__law_alike hr (pa_cons (xCall G_blurred hr (pa_cons (pv 2) (pa_cons (pv 5) pa_nil))) (pa_cons (xCall G__law_blurred hr (pa_cons (pv 2) (pa_cons (pv 5) pa_nil))) pa_nil))))) (pss_one (ps_ret pe_bl)) pss_nil)
    (pss_cons (ps_setLc (i := 6) (own := [("_law_lots_here", 5)]) (g := (gName 5)) (tt := (tB (tCall s__law_told [] E0 (tCons (tCall s__law_blurred [] E0 (tCons (tVar 2) (tCons (tVar 5) tNil))) (tCons (tVar 7) (tCons (tVar 8) tNil)))))) (te := (tTup (tCons (tOp rSubI (tC (.int 0)) (tCB (rLenS K) (tCons (tVar 5) tNil))) (tCons (tVar 5) tNil)))) rfl sc_law.nd rfl rfl (sw_true rfl rfl rfl (by decide +kernel)) (kPiL (rK K) (pv 4)) (blkOk_by (by kernel_rfl)) (fun _ _ _ _ _ => by exact (pg_name (i := 5) sc_law.nd rfl (by first | exact Or.inl rfl | exact Or.inr rfl))) (fun _ _ _ _ _ => by exact (pts_one (pt_val (xCall G__law_told hr (pa_cons (xCall G__law_blurred hr (pa_cons (pv 2) (pa_cons (pv 5) pa_nil))) (pa_cons (pv 7) (pa_cons (pv 8) pa_nil))))))) (fun _ _ _ _ _ => by exact (pe_tup (pa_cons (pe_op op_sub pe_int (xLen (rK K) B.len (pv 5))) (pa_cons (pv 5) pa_nil)))))
    (pss_cons (ps_if (pt_not (pt_val (xCall G__law_alike hr (pa_cons (xCall G_finest_blur hr (pa_cons (pv 2) pa_nil)) (pa_cons (xT (rK K) (xMinD (rK K) rfl B.min hr (pv 6)) pe_int) pa_nil))))) (pss_one (ps_ret pe_bl)) pss_nil)
    (pss_one (ps_ret (pe_and (pe_cmpR op_isBl (xCall G_can_be_told hr (pa_cons (xCall G_blurred hr (pa_cons (pv 2) (pa_cons (xCall G_finest_blur hr (pa_cons (pv 2) pa_nil)) pa_nil))) pa_nil)) pe_bl (nomark _)) (pe_one (pe_cmpR op_eq (xCall G_can_be_told hr (pa_cons (pv 2) pa_nil)) (pe_cmpR op_eq (xLen (rK K) B.len (xCall G_finest_blur hr (pa_cons (pv 2) pa_nil))) (xLen (rK K) B.len (pv 3)) (nomark _)) (nomark _))))))))))))))))
end
end K15
namespace K15
open PySem L2 Evl
structure TI where
  t : Tab
  n : Nat
  m : Nat
def TI.ok (i : TI) : Prop := TabOk i.t i.n i.m
section
variable {K : PySem.W.Frag} {σ : L2.St} {H : Hp} {ta tb tc : TE} {d : PyData}
theorem ed_row {i : TI} (ok : i.ok) {x : Nat} (hx : x < i.n) (ha : Ed K ta σ H (tabD i.t)) (hb : Ed K tb σ H (.int (x : Nat))) : Ed K (tOp (rIxT K) ta tb) σ H (rowD (i.t.getD x [])) := by
  obtain ⟨r, h1, h2, h3⟩ := TabOk.row ok hx
  have e : i.t.getD x [] = r := by
    rw [List.getD_eq_getElem?_getD, h1]
    rfl
  rw [e]
  exact ed_ixT ha hb (atI_map h1)
theorem ed_cell {i : TI} (ok : i.ok) {x y : Nat} (hx : x < i.n) (hy : y < i.m) (ha : Ed K ta σ H (tabD i.t)) (hb : Ed K tb σ H (.int (x : Nat))) (hc : Ed K tc σ H (.int (y : Nat))) :
    Ed K (tOp (rIxT K) (tOp (rIxT K) ta tb) tc) σ H (.int (cell i.t x y)) := by
  obtain ⟨r, h1, h2, h3⟩ := TabOk.get ok hx hy
  have e : i.t.getD x [] = r := by
    rw [List.getD_eq_getElem?_getD, h1]
    rfl
  have q := ed_row ok hx ha hb
  rw [e] at q
  exact ed_ixT q hc (atI_map h3)
theorem row_len {i : TI} (ok : i.ok) {x : Nat} (hx : x < i.n) : (i.t.getD x []).length = i.m := by
  obtain ⟨r, h1, h2, h3⟩ := TabOk.row ok hx
  rw [List.getD_eq_getElem?_getD, h1]
  exact h3
theorem ed_rows {i : TI} (ok : i.ok) (h : Ed K ta σ H (tabD i.t)) : Ed K (tCB (rLenS K) (tCons ta tNil)) σ H (.int (i.n : Nat)) := by
  have q := ed_lenT h
  rw [List.length_map, ok.rows] at q
  exact q
theorem ed_cols {i : TI} (ok : i.ok) (h : Ed K ta σ H (tabD i.t)) : Ed K (tCB (rLenS K) (tCons (tOp (rIxT K) ta (tC (.int 0))) tNil)) σ H (.int (i.m : Nat)) := by
  have q := ed_lenT (ed_row ok ok.n1 h (ed_int (n := 0)))
  rw [List.length_map, row_len ok ok.n1] at q
  exact q
/-- a chain of two comparisons -/
theorem ed_chainI {g g' : Int → Int → Bool} {i j l : Int} (ha : Ed K ta σ H (.int i)) (hb : Ed K tb σ H (.int j)) (hc : Ed K tc σ H (.int l)) :
    Ed K (tChain (rI0 fun i j => .bl (g i j)) (rI0 fun i j => .bl (g' i j)) ta tb tc) σ H (.bool (g i j && g' j l)) := fun H1 e Q q =>
  ha H1 e _ fun x H2 e2 hx => hb H2 (e.trans e2) _ fun y H3 e3 hy => ⟨i, j, dp_int hx, dp_int hy, g i j, rfl, by
    cases h : g i j with
    | true =>
      rw [if_pos rfl]
      refine hc H3 ((e.trans e2).trans e3) _ fun z H4 e4 hz => ⟨j, l, dp_int hy, dp_int hz, ?_⟩
      rw [h] at q
      exact q _ H4 ((e2.trans e3).trans e4) (.bl _)
    | false =>
      rw [if_neg (by decide)]
      rw [h] at q
      exact q _ H3 (e2.trans e3) (.bl _)⟩
theorem natD_eq (x : Nat) : natD x = .int (x : Nat) := rfl
end
theorem filter_yes {α : Type} (l : List α) : l.filter (fun _ => true) = l := List.filter_eq_self.mpr fun _ _ => rfl
theorem et_yes {σ : L2.St} {H : Hp} : Evl.EvT tYes σ H true := fun H1 _ Q q => q H1 (Ex.refl H1)
theorem all_true {α : Type} {l : List α} {p : α → Bool} (h : ∀ a ∈ l, p a = true) : (l.map p).all id = true := by
  rw [List.all_eq_true]
  intro x hx
  obtain ⟨a, ha, rfl⟩ := List.mem_map.mp hx
  exact h a ha
section
variable {P : Program} {w : World} {K : PySem.W.Frag} {mg : Str → Option Value} {base : Heap} {f : Addr} {fd : FuncData} {k : Nat}
/-! ### whole -/
def spWhole (K : PySem.W.Frag) : Sp := sp1 K 1 TI.ok (fun i => [tabD i.t]) fun i => .tuple [natsD (List.range i.n), natsD (List.range i.m)]
theorem ok_whole (F : Fun K "whole" "whole" (top 13) f fd) (B : Bi mg) (C : Co mg) : FnOk P w K mg base CX0 (k + 1) f fd ["table"] (spWhole K) := by
  refine F.ok sc_whole (fun vs H Q E h => h.elim fun _ q => q.1) (fun cdv A outer s H vs Q E hr h => ?_)
  obtain ⟨i, _, ok, hd, q⟩ := h
  obtain ⟨v, rfl, hv⟩ := dps_1 hd
  refine ⟨_, d_whole B C hr, ?_⟩
  have h0 : Ed K (tVar 0) (start ["table"] [v]) H (tabD i.t) := ed_var rfl hv
  have n6 := ok.n6
  have m6 := ok.m6
  exact d_ret (ed_tup (ea2 (ed_tupRg (ed_rows ok h0) (by omega)) (ed_tupRg (ed_cols ok h0) (by omega))) (Nat.le_of_ble_eq_true rfl)) fun v H1 e hv => q v H1 e hv
/-! ### turned_table -/
def spTurned (K : PySem.W.Frag) : Sp := sp1 K 1 TI.ok (fun i => [tabD i.t]) fun i => tabD (turnT i.t i.m)
theorem turned_ed {σ : L2.St} {H : Hp} {i : TI} {v : V} {j1 j2 : Nat} {vs1 vs2 : List Nat} (ok : i.ok) (hv : Dp K H v (tabD i.t)) (h0 : σ[0]? = some (some v)) (h00 : ∀ y, ((wipe σ vs1).set j1 (some y))[0]? = some (some v))
    (h1 : ∀ x, wipe ((wipe σ vs1).set j1 (some x)) vs1 = wipe σ vs1) (h2 : ∀ y x, wipe ((wipe ((wipe σ vs1).set j1 (some y)) vs2).set j2 (some x)) vs2 = wipe ((wipe σ vs1).set j1 (some y)) vs2)
    (h3 : ∀ y x, ((wipe ((wipe σ vs1).set j1 (some y)) vs2).set j2 (some x))[j2]? = some (some x)) (h4 : ∀ y x, ((wipe ((wipe σ vs1).set j1 (some y)) vs2).set j2 (some x))[j1]? = some (some y)) :
    Ed K (tCB (rTupS K) (tCons (tLc (iRng1 (tCons (tCB (rLenS K) (tCons (tOp (rIxT K) (tVar 0) (tC (.int 0))) tNil)) tNil)) (gName j1) tYes (tCB (rTupS K) (tCons (tLc (iTup K (tVar 0)) (gName j2) tYes (tOp (rIxT K) (tVar j2) (tVar j1)) vs2) tNil)) vs1) tNil)) σ H (tabD (turnT i.t i.m)) := by
  have m6 := ok.m6
  have n6 := ok.n6
  refine (ed_tupleL (ed_lcR (p := fun _ => true) (f := fun y => rowD (i.t.map fun r => r.getD y 0)) (ea1 (ed_cols ok (ed_var h0 hv))) h1 (by omega) (fun _ _ => noL_row _) (fun _ _ _ _ => et_yes) fun y hy _ H1 e1 => ?_)).is ?_
  · refine (ed_tupleL (ed_lcT (A := i.t) (enc := rowD) (p := fun _ => true) (f := fun r => .int (r.getD y 0)) (ed_var (h00 _) (dp_ex e1 _ _ hv)) (h2 _) (by rw [ok.rows]; omega) (fun _ _ => rfl) (fun _ _ _ _ _ _ => et_yes) fun r hr _ w H2 e2 hw => ?_)).is ?_
    · have hy' : y < r.length := by rw [ok.cols r hr]; exact hy
      refine ed_ixT (ds := r.map .int) (ed_var (h3 _ _) hw) (ed_var (v := .int (y : Nat)) (h4 _ _) (.int _)) (atI_map (f := PyData.int) ?_)
      rw [List.getD_eq_getElem?_getD, List.getElem?_eq_getElem hy']
      rfl
    · rw [filter_yes, rowD, List.map_map]
      rfl
  · rw [filter_yes, turnT, tabD, List.map_map]
    rfl
theorem ok_turned_table (F : Fun K "turned_table" "turned_table" (top 12) f fd) (B : Bi mg) (C : Co mg) : FnOk P w K mg base CX0 (k + 1) f fd ["table"] (spTurned K) := by
  refine F.ok sc_turned_table (fun vs H Q E h => h.elim fun _ q => q.1) (fun cdv A outer s H vs Q E hr h => ?_)
  obtain ⟨i, _, ok, hd, q⟩ := h
  obtain ⟨v, rfl, hv⟩ := dps_1 hd
  refine ⟨_, d_turned_table B C hr, ?_⟩
  exact d_ret (turned_ed ok hv rfl (fun _ => rfl) (fun _ => rfl) (fun _ _ => rfl) (fun _ _ => rfl) (fun _ _ => rfl)) fun v H1 e hv => q v H1 e hv
/-! ### is_from -/
structure FI where
  a : Int
  lo : Int
  hi : Int
def spFrom (K : PySem.W.Frag) : Sp := sp1 K 3 (fun _ : FI => True) (fun i => [.int i.a, .int i.lo, .int i.hi]) fun i => .bool (decide (i.lo ≤ i.a) && decide (i.a ≤ i.hi))
theorem ok_is_from (F : Fun K "is_from" "is_from" (top 8) f fd) (B : Bi mg) (C : Co mg) : FnOk P w K mg base CX0 (k + 1) f fd ["value", "least", "most"] (spFrom K) := by
  refine F.ok sc_is_from (fun vs H Q E h => h.elim fun _ q => q.1) (fun cdv A outer s H vs Q E hr h => ?_)
  obtain ⟨i, _, _, hd, q⟩ := h
  obtain ⟨v1, v2, v3, rfl, h1, h2, h3⟩ := dps_3 hd
  refine ⟨_, d_is_from B C hr, ?_⟩
  refine d_ret ((ed_andV (ed_isi (r := true) (ed_var rfl h1) rfl (by decide +kernel)) fun _ => ed_andV (ed_notV (ed_isi (r := false) (ed_var rfl h1) rfl (by decide +kernel))) fun _ => ed_chainI (g := fun i j => decide (i ≤ j)) (g' := fun i j => decide (i ≤ j)) (ed_var rfl h2) (ed_var rfl h1) (ed_var rfl h3)).is ?_) fun v H1 e hv => q v H1 e hv
  simp
theorem ed_from {σ : L2.St} {H : Hp} {E : XK} {t : TA} {a lo hi : Int} (h : EdA K t σ H [.int a, .int lo, .int hi]) : Ed K (tCall (spFrom K) [] E t) σ H (.bool (decide (lo ≤ a) && decide (a ≤ hi))) :=
  ed_fn (pre := fun _ : FI => True) (⟨a, lo, hi⟩ : FI) h trivial rfl
/-! ### is_table, need_table -/
def spIsTable (K : PySem.W.Frag) : Sp := sp1 K 1 TI.ok (fun i => [tabD i.t]) fun _ => .bool true
theorem ok_is_table (F : Fun K "is_table" "is_table" (top 9) f fd) (B : Bi mg) (C : Co mg) (G : Fn P w K mg base k "is_from" ["value", "least", "most"] (spFrom K)) : FnOk P w K mg base CX0 (k + 1) f fd ["value"] (spIsTable K) := by
  refine F.ok sc_is_table (fun vs H Q E h => h.elim fun _ q => q.1) (fun cdv A outer s H vs Q E hr h => ?_)
  obtain ⟨i, _, ok, hd, q⟩ := h
  obtain ⟨v, rfl, hv⟩ := dps_1 hd
  refine ⟨_, d_is_table B C _ G hr, ?_⟩
  have n1 := ok.n1
  have n6 := ok.n6
  have m1 := ok.m1
  have m6 := ok.m6
  have h0 : Ed K (tVar 0) (start ["value", "row", "answer"] [v]) H (tabD i.t) := ed_var rfl hv
  refine q_when (et_or (et_not (et_Bd (ed_isi (r := true) h0 rfl (by decide +kernel)))) fun _ => et_not (et_testd (ed_chainI (g := fun i j => decide (i ≤ j)) (g' := fun i j => decide (i ≤ j)) (ed_int (n := 1)) (ed_rows ok h0) (ed_int (n := 6))))) (fun c => ?_) fun _ H1 e1 => ?_
  · have e1 : decide ((1 : Int) ≤ (i.n : Nat)) = true := decide_eq_true (by omega)
    have e2 : decide (((i.n : Nat) : Int) ≤ 6) = true := decide_eq_true (by omega)
    rw [e1, e2] at c
    exact absurd c (by decide)
  have v1 := dp_ex e1 _ _ hv
  refine q_when (et_not (et_Bd (ed_all (bs := i.t.map fun _ => true) ((ed_lcT (A := i.t) (enc := rowD) (p := fun _ => true) (f := fun _ => .bool true) (ed_var rfl v1) (fun _ => rfl) (by rw [ok.rows]; omega) (fun _ _ => rfl) (fun _ _ _ _ _ _ => et_yes) fun r hr _ w H2 e2 hw => ?_).is ?_)))) (fun c => ?_) fun _ H2 e2 => ?_
  · refine (ed_andV (b := true) (ed_isi (r := true) (ed_var rfl hw) rfl (by decide +kernel)) fun _ => (ed_chainI (g := fun i j => decide (i ≤ j)) (g' := fun i j => decide (i ≤ j)) (ed_int (n := 1)) (ed_lenT (ds := r.map .int) (ed_var rfl hw)) (ed_int (n := 6))).is ?_).is rfl
    rw [List.length_map, ok.cols r hr, decide_eq_true (show (1 : Int) ≤ (i.m : Nat) by omega), decide_eq_true (show ((i.m : Nat) : Int) ≤ 6 by omega)]
    rfl
  · rw [filter_yes, List.map_map]
    rfl
  · rw [all_true fun _ _ => rfl] at c
    exact absurd c (by decide)
  have v2 := dp_ex e2 _ _ v1
  refine q_when (et_not (et_Bd (ed_all (bs := i.t.map fun _ => true) ((ed_lcT (A := i.t) (enc := rowD) (p := fun _ => true) (f := fun _ => .bool true) (ed_var rfl v2) (fun _ => rfl) (by rw [ok.rows]; omega) (fun _ _ => rfl) (fun _ _ _ _ _ _ => et_yes) fun r hr _ w H3 e3 hw => ?_).is ?_)))) (fun c => ?_) fun _ H3 e3 => ?_
  · refine (ed_eqI (ed_lenT (ds := r.map .int) (ed_var rfl hw)) (ed_cols ok (ed_var rfl (dp_ex e3 _ _ v2)))).is ?_
    rw [List.length_map, ok.cols r hr, beq_self_eq_true]
  · rw [filter_yes, List.map_map]
    rfl
  · rw [all_true fun _ _ => rfl] at c
    exact absurd c (by decide)
  have v3 := dp_ex e3 _ _ v2
  refine d_ret (ed_all (bs := i.t.flatMap fun r => r.map fun a => true) ((ed_lc2 (A := i.t) (enc := rowD) (B := fun r => r) (encB := fun _ a => .int a) (f := fun _ _ => .bool true) (ed_var rfl v3) (fun _ => rfl) (fun _ _ => rfl) ?_ (fun _ _ _ _ => rfl) (fun _ _ _ _ => rfl) (fun r hr w H4 e4 hw => ed_var rfl hw) fun r hr a ha w u H4 e4 hw hu => ?_).is ?_)) fun v H4 e4 hv => ?_
  · rw [List.length_flatMap]
    have := sum_le_mul (i.t.map fun r => (r.map fun _ => PyData.bool true).length) 6 (fun x hx => by
      obtain ⟨r, hr, rfl⟩ := List.mem_map.mp hx
      rw [List.length_map, ok.cols r hr]
      exact m6)
    rw [List.length_map, ok.rows] at this
    omega
  · refine (ed_from (ea_consD (ed_var rfl hu) (ea2 (ed_int (n := 0)) (ed_int (n := 99))))).is ?_
    have := ok.rng r hr a ha
    rw [decide_eq_true (show (0 : Int) ≤ a from this.1), decide_eq_true (show a ≤ 99 from this.2)]
    rfl
  · rw [List.map_flatMap]
    simp only [List.map_map]
    rfl
  · have e : (i.t.flatMap fun r => r.map fun _ => true).all id = true := by
      rw [List.all_eq_true]
      intro x hx
      obtain ⟨r, _, hx⟩ := List.mem_flatMap.mp hx
      obtain ⟨_, _, rfl⟩ := List.mem_map.mp hx
      rfl
    rw [e] at hv
    exact q v H4 (e1.trans (e2.trans (e3.trans e4))) hv
def spNeedTable (K : PySem.W.Frag) : Sp := sp1 K 1 TI.ok (fun i => [tabD i.t]) fun _ => .none
theorem ok_need_table (F : Fun K "need_table" "need_table" (top 10) f fd) (B : Bi mg) (C : Co mg) (G : Fn P w K mg base k "is_table" ["value"] (spIsTable K)) : FnOk P w K mg base CX0 (k + 1) f fd ["value"] (spNeedTable K) := by
  refine F.ok sc_need_table (fun vs H Q E h => h.elim fun _ q => q.1) (fun cdv A outer s H vs Q E hr h => ?_)
  obtain ⟨i, _, ok, hd, q⟩ := h
  obtain ⟨v, rfl, hv⟩ := dps_1 hd
  refine ⟨_, d_need_table B C _ G hr, ?_⟩
  refine s_when (et_not (et_Bd (ed_fn i (ea1 (ed_var rfl hv)) ok rfl))) (fun c => absurd c (by decide)) fun _ H1 e1 => q .non H1 e1 .non
end
end K15
namespace K15
open PySem L2 Evl
section
variable {K : PySem.W.Frag} {σ : L2.St} {H : Hp} {ta tb tc te tl : TE} {tt : TT} {d d1 d2 : PyData} {D : Ends} {tu tz : L2.TS}
theorem dq_drop (h : Ed K te σ H d) (k : ∀ H1, Ex H H1 → tz D σ H1) : tSeq (tDrop te) tz D σ H := h H (Ex.refl H) _ fun _ H1 e _ => k H1 e
theorem d_pair {i j : Nat} {v : V} {Q : L2.St → Hp → Prop} (hv : Dp K H v (.tuple [d1, d2])) (k : ∀ x y, Dp K H x d1 → Dp K H y d2 → Q ((σ.set i (some x)).set j (some y)) H) : gTup K 2 (gCons (gName i) (gCons (gName j) gNil)) v σ H Q := by
  obtain ⟨a, vs, rfl, hs, hd⟩ := dp_tup hv
  obtain ⟨x, y, rfl, h1, h2⟩ := dps_2 hd
  exact ⟨a, _, rfl, hs, rfl, x, [y], rfl, y, [], rfl, rfl, k x y h1 h2⟩
theorem dq_asg2 {i j : Nat} (h : Ed K te σ H (.tuple [d1, d2])) (k : ∀ x y H1, Ex H H1 → Dp K H1 x d1 → Dp K H1 y d2 → tz D ((σ.set i (some x)).set j (some y)) H1) : tSeq (tAsg te (gTup K 2 (gCons (gName i) (gCons (gName j) gNil)))) tz D σ H :=
  h H (Ex.refl H) _ fun v H1 e hv => d_pair (Q := tz D) hv fun x y h1 h2 => k x y H1 e h1 h2
/-- for x in t -/
theorem d_forT {α : Type} {A : List α} {enc : α → PyData} {j : Nat} (h : Ed K tl σ H (.tuple (A.map enc))) (hn : ∀ a ∈ A, noL (enc a) = true) (Pv : Hp → Nat → L2.St → Hp → Prop) (h0 : ∀ H1, Ex H H1 → Pv H1 0 σ H1)
    (hl : ∀ H1 i σ' H', Ex H H1 → Pv H1 i σ' H' → Tst H1 H')
    (hs : ∀ i a v σ' H1 H', Ex H H1 → A[i]? = some a → Dp K H' v (enc a) → Pv H1 i σ' H' → tu { D with nx := Pv H1 (i + 1), ct := Pv H1 (i + 1), bk := D.nx } (σ'.set j (some v)) H')
    (hd : ∀ H1 σ' H', Ex H H1 → Pv H1 A.length σ' H' → D.nx σ' H') : tFor (iTup K tl) (gName j) tu D σ H := h H (Ex.refl H) _ fun v H1 e1 hv => by
  obtain ⟨a, xs, rfl, hs', hdp⟩ := dp_tup hv
  have hlen : xs.length = A.length := by rw [dps_len hdp, List.length_map]
  refine ⟨a, rfl, ⟨xs, hs'⟩, for_tup (fun i σ' H' => Pv H1 i σ' H') (h0 H1 e1) (fun i σ' H' _ p => ts_t (hl H1 i σ' H' e1 p) hs') (fun i x σ' H' hi p => ?_) fun σ' H' p => hd H1 σ' H' e1 (by rw [← hlen]; exact p)⟩
  obtain ⟨b, hb, hx⟩ := dpAll_forall enc hdp hi
  exact hs i b x σ' H1 H' e1 hb (dp_ts (hl H1 i σ' H' e1 p) _ _ (hn b (List.mem_of_getElem? hb)) hx) p
theorem dq_forT {α : Type} {A : List α} {enc : α → PyData} {j : Nat} (h : Ed K tl σ H (.tuple (A.map enc))) (hn : ∀ a ∈ A, noL (enc a) = true) (Pv : Hp → Nat → L2.St → Hp → Prop) (h0 : ∀ H1, Ex H H1 → Pv H1 0 σ H1)
    (hl : ∀ H1 i σ' H', Ex H H1 → Pv H1 i σ' H' → Tst H1 H')
    (hs : ∀ i a v σ' H1 H', Ex H H1 → A[i]? = some a → Dp K H' v (enc a) → Pv H1 i σ' H' → tu { D with nx := Pv H1 (i + 1), ct := Pv H1 (i + 1), bk := tz D } (σ'.set j (some v)) H')
    (hd : ∀ H1 σ' H', Ex H H1 → Pv H1 A.length σ' H' → tz D σ' H') : tSeq (tFor (iTup K tl) (gName j) tu) tz D σ H := d_forT (D := { D with nx := tz D }) h hn Pv h0 hl hs hd
theorem ed_drop0 {R : List Nat} (hR : R ≠ []) (h : Ed K ta σ H (natsD R)) : Ed K (tOp (rIxT K) ta (tC (.int 0))) σ H (natD (R.headD 0)) := by
  cases R with
  | nil => exact absurd rfl hR
  | cons a r => exact ed_ixT h (ed_int (n := 0)) (atI_map (f := natD) (j := 0) rfl)
end
/-! ### where the program stands: a table, some rows, some columns -/
structure Pt where
  i : TI
  R : List Nat
  C : List Nat
structure Pt.Ok (p : Pt) : Prop where
  tab : p.i.ok
  rne : p.R ≠ []
  cne : p.C ≠ []
  r : ∀ x ∈ p.R, x < p.i.n
  c : ∀ y ∈ p.C, y < p.i.m
  rnd : p.R.Nodup
  cnd : p.C.Nodup
theorem len_le6 {R : List Nat} {n : Nat} (nd : R.Nodup) (h : ∀ x ∈ R, x < n) (h6 : n ≤ 6) : R.length ≤ 6 := by
  have := nodup_len_le (m := List.range n) nd fun x hx => List.mem_range.mpr (h x hx)
  rw [List.length_range] at this
  omega
theorem Pt.Ok.r6 {p : Pt} (h : p.Ok) : p.R.length ≤ 6 := len_le6 h.rnd h.r h.tab.n6
theorem Pt.Ok.c6 {p : Pt} (h : p.Ok) : p.C.length ≤ 6 := len_le6 h.cnd h.c h.tab.m6
def Pt.args (p : Pt) : List PyData := [tabD p.i.t, natsD p.R, natsD p.C]
theorem head_in {R : List Nat} (h : R ≠ []) : R.headD 0 ∈ R := by
  cases R with
  | nil => exact absurd rfl h
  | cons a r => exact List.mem_cons_self
theorem flat_le36 {α β : Type} {A : List α} {B : α → List β} {f : α → β → PyData} (hA : A.length ≤ 6) (hB : ∀ a ∈ A, (B a).length ≤ 6) : (A.flatMap fun a => (B a).map (f a)).length ≤ 36 := by
  rw [List.length_flatMap]
  have := sum_le_mul (A.map fun a => ((B a).map (f a)).length) 6 (fun x hx => by
    obtain ⟨a, ha, rfl⟩ := List.mem_map.mp hx
    rw [List.length_map]
    exact hB a ha)
  rw [List.length_map] at this
  omega
section
variable {P : Program} {w : World} {K : PySem.W.Frag} {mg : Str → Option Value} {base : Heap} {f : Addr} {fd : FuncData} {k : Nat}
/-! ### answers_in -/
structure AI where
  i : TI
  as : List Int
def spAns (K : PySem.W.Frag) : Sp := sp1 K 1 (fun i : AI => i.i.ok ∧ AnsOf i.i.t i.as) (fun i => [tabD i.i.t]) fun i => rowD i.as
theorem flat_cells {t : Tab} : (t.flatMap fun r => r.map fun a => PyData.int a) = (t.flatten).map .int := by
  rw [List.map_flatten, ← List.flatMap_def]
theorem ok_answers_in (F : Fun K "answers_in" "answers_in" (top 11) f fd) (B : Bi mg) (C : Co mg) (G : Fn P w K mg base k "need_table" ["value"] (spNeedTable K)) : FnOk P w K mg base CX0 (k + 1) f fd ["table"] (spAns K) := by
  refine F.ok sc_answers_in (fun vs H Q E h => h.elim fun _ q => q.1) (fun cdv A outer s H vs Q E hr h => ?_)
  obtain ⟨i, _, ⟨ok, ha⟩, hd, q⟩ := h
  obtain ⟨v, rfl, hv⟩ := dps_1 hd
  refine ⟨_, d_answers_in B C _ G hr, ?_⟩
  refine dq_drop (ed_fn (pre := TI.ok) i.i (ea1 (ed_var rfl hv)) ok rfl) fun H1 e1 => ?_
  have v1 := dp_ex e1 _ _ hv
  have hz := flat_le36 (A := i.i.t) (B := fun r => r) (f := fun _ a => PyData.int a) (by rw [ok.rows]; exact ok.n6) fun r hr => by rw [ok.cols r hr]; exact ok.m6
  have hz' := hz
  rw [flat_cells, List.length_map] at hz'
  refine d_ret (ed_tupleL (ed_setS (ns := i.i.t.flatten) (as := i.as) false ?_ (by omega) ha.asc fun a => ?_)) fun v H2 e2 hv => q v H2 (e1.trans e2) hv
  · refine (ed_lc2 (A := i.i.t) (enc := rowD) (B := fun r => r) (encB := fun _ a => .int a) (f := fun _ a => .int a) (ed_var rfl v1) (fun _ => rfl) (fun _ _ => rfl) (by omega) (fun _ _ _ _ => rfl) (fun _ _ _ _ => rfl) (fun r hr w H4 e4 hw => ed_var rfl hw) fun r hr a ha w u H4 e4 hw hu => ed_var rfl hu).is ?_
    rw [flat_cells]
    rfl
  · rw [ha.mem a, List.mem_flatten]
/-! ### is_one, are_near -/
def spOne (K : PySem.W.Frag) : Sp := sp1 K 3 Pt.Ok Pt.args fun p => .bool (isOne (cell p.i.t) p.R p.C)
theorem flat_all {R C : List Nat} {g : Nat → Nat → Bool} : (R.flatMap fun x => C.map fun y => g x y).all id = R.all fun x => C.all fun y => g x y := by
  rw [List.all_flatMap]
  congr 1
  funext x
  rw [List.all_map]
  rfl
theorem ok_is_one (F : Fun K "is_one" "is_one" (top 15) f fd) (B : Bi mg) (C : Co mg) : FnOk P w K mg base CX0 (k + 1) f fd ["table", "rows", "columns"] (spOne K) := by
  refine F.ok sc_is_one (fun vs H Q E h => h.elim fun _ q => q.1) (fun cdv A outer s H vs Q E hr h => ?_)
  obtain ⟨i, _, ok, hd, q⟩ := h
  obtain ⟨vt, vr, vc, rfl, ht, hrr, hc⟩ := dps_3 hd
  refine ⟨_, d_is_one B C hr, ?_⟩
  refine dq_asg (ed_cell ok.tab (ok.r _ (head_in ok.rne)) (ok.c _ (head_in ok.cne)) (ed_var rfl ht) (ed_drop0 ok.rne (ed_var rfl hrr)) (ed_drop0 ok.cne (ed_var rfl hc))) fun vf H1 e1 hf => ?_
  have ht1 := dp_ex e1 _ _ ht
  have hr1 := dp_ex e1 _ _ hrr
  have hc1 := dp_ex e1 _ _ hc
  have r6 := ok.r6
  have c6 := ok.c6
  have hz := flat_le36 (A := i.R) (B := fun _ => i.C) (f := fun x y => PyData.bool (cell i.i.t x y == cell i.i.t (i.R.headD 0) (i.C.headD 0))) r6 fun _ _ => c6
  refine d_ret ((ed_all (bs := i.R.flatMap fun x => i.C.map fun y => cell i.i.t x y == cell i.i.t (i.R.headD 0) (i.C.headD 0)) ((ed_lc2 (A := i.R) (enc := natD) (B := fun _ => i.C) (encB := fun _ y => natD y) (f := fun x y => .bool (cell i.i.t x y == cell i.i.t (i.R.headD 0) (i.C.headD 0))) (ed_var rfl hr1) (fun _ => rfl) (fun _ _ => rfl) (by omega) (fun _ _ _ _ => rfl) (fun _ _ _ _ => rfl) (fun r hr w H4 e4 hw => ed_var rfl (dp_ex e4 _ _ hc1)) fun x hx y hy w u H4 e4 hw hu => ?_).is ?_)).is ?_) fun v H4 e4 hv => q v H4 (e1.trans e4) hv
  · exact ed_eqI (ed_cell ok.tab (ok.r x hx) (ok.c y hy) (ed_var rfl (dp_ex e4 _ _ ht1)) (ed_var rfl hw) (ed_var rfl hu)) (ed_var rfl (dp_ex e4 _ _ hf))
  · rw [List.map_flatMap]
    simp only [List.map_map]
    rfl
  · rw [flat_all]
    rfl
structure NI where
  i : TI
  a : Nat
  b : Nat
  C : List Nat
def NI.Ok (i : NI) : Prop := i.i.ok ∧ i.a < i.i.n ∧ i.b < i.i.n ∧ (∀ y ∈ i.C, y < i.i.m) ∧ i.C.length ≤ 6
def spNear (K : PySem.W.Frag) : Sp := sp1 K 4 NI.Ok (fun i => [tabD i.i.t, natD i.a, natD i.b, natsD i.C]) fun i => .bool (near (cell i.i.t) i.C i.a i.b)
theorem ok_are_near (F : Fun K "are_near" "are_near" (top 16) f fd) (B : Bi mg) (C : Co mg) : FnOk P w K mg base CX0 (k + 1) f fd ["table", "one", "other", "columns"] (spNear K) := by
  refine F.ok sc_are_near (fun vs H Q E h => h.elim fun _ q => q.1) (fun cdv A outer s H vs Q E hr h => ?_)
  obtain ⟨i, _, ⟨ok, ha, hb, hC, hC6⟩, hd, q⟩ := h
  obtain ⟨vt, va, vb, vc, rfl, ht, hva, hvb, hc⟩ := dps_4 hd
  refine ⟨_, d_are_near B C hr, ?_⟩
  refine d_ret ((ed_any (bs := i.C.map fun y => cell i.i.t i.a y == cell i.i.t i.b y) ((ed_lcT (A := i.C) (enc := natD) (p := fun _ => true) (f := fun y => .bool (cell i.i.t i.a y == cell i.i.t i.b y)) (ed_var rfl hc) (fun _ => rfl) (by omega) (fun _ _ => rfl) (fun _ _ _ _ _ _ => et_yes) fun y hy _ w H2 e2 hw => ?_).is ?_)).is ?_) fun v H4 e4 hv => q v H4 e4 hv
  · exact ed_eqI (ed_cell ok ha (hC y hy) (ed_var rfl (dp_ex e2 _ _ ht)) (ed_var rfl (dp_ex e2 _ _ hva)) (ed_var rfl hw)) (ed_cell ok hb (hC y hy) (ed_var rfl (dp_ex e2 _ _ ht)) (ed_var rfl (dp_ex e2 _ _ hvb)) (ed_var rfl hw))
  · rw [filter_yes, List.map_map]
    rfl
  · rw [List.any_map]
    rfl
theorem ed_near {σ : L2.St} {H : Hp} {E : XK} {t : TA} {i : NI} (h : EdA K t σ H [tabD i.i.t, natD i.a, natD i.b, natsD i.C]) (ok : i.Ok) : Ed K (tCall (spNear K) [] E t) σ H (.bool (near (cell i.i.t) i.C i.a i.b)) :=
  ed_fn (pre := NI.Ok) i h ok rfl
end
end K15
namespace K15
open PySem L2 Evl
theorem nat_beq (a b : Nat) : (((a : Nat) : Int) == ((b : Nat) : Int)) = (a == b) := by
  (rw [Bool.eq_iff_iff, beq_iff_eq, beq_iff_eq])
  omega
def kv (R : List Nat) (h : Nat → Nat) : List (Key × V) := R.map fun (x : Nat) => ((Sum.inl (x : Int) : Key), V.int ((h x : Nat) : Int))
section
variable {K : PySem.W.Frag} {σ : L2.St} {H : Hp} {ta tb tc te tl tk tv : TE} {tt : TT} {d d1 d2 : PyData} {D : Ends} {tu tz : L2.TS}
theorem ed_hd {p : Addr} {R : List Nat} {h : Nat → Nat} {a j : Nat} (h0 : σ[j]? = some (some (.ref p))) (hp : H p = some (.dK (kv R h))) (ha : a ∈ R) (hb : Ed K te σ H (natD a)) : Ed K (tDGet (tVar j) te) σ H (natD (h a)) :=
  ed_dget (v := .int ((h a : Nat) : Int)) (n := (a : Int)) (ev_var h0) hp hb (val_nats (g := fun x => ((h x : Nat) : Int)) ha) fun _ _ => .int _
theorem d_dcT {A : List Nat} {g : Nat → Nat} {j l : Nat} {vs : List Nat} (nd : A.Nodup) (h : Ed K tl σ H (natsD A)) (hw : ∀ x, wipe ((wipe σ vs).set j (some x)) vs = wipe σ vs) (hz : A.length ≤ 1000)
    (hk : ∀ x ∈ A, ∀ H1, Ex H H1 → Ed K tk ((wipe σ vs).set j (some (.int (x : Nat)))) H1 (natD x)) (hv : ∀ x ∈ A, ∀ H1, Ex H H1 → Ed K tv ((wipe σ vs).set j (some (.int (x : Nat)))) H1 (natD (g x)))
    (k : ∀ p H1, Ex H H1 → H1 p = some (.dK (kv A g)) → D.nx (σ.set l (some (.ref p))) H1) : tAsg (tDc (iTup K tl) (gName j) tYes tk tv vs) (gName l) D σ H :=
  go_dcT (g := fun x => ((g x : Nat) : Int)) nd h hw hz hk hv fun p H1 _ e1 h1 => k p H1 e1 h1
theorem dq_dcT {A : List Nat} {g : Nat → Nat} {j l : Nat} {vs : List Nat} (nd : A.Nodup) (h : Ed K tl σ H (natsD A)) (hw : ∀ x, wipe ((wipe σ vs).set j (some x)) vs = wipe σ vs) (hz : A.length ≤ 1000)
    (hk : ∀ x ∈ A, ∀ H1, Ex H H1 → Ed K tk ((wipe σ vs).set j (some (.int (x : Nat)))) H1 (natD x)) (hv : ∀ x ∈ A, ∀ H1, Ex H H1 → Ed K tv ((wipe σ vs).set j (some (.int (x : Nat)))) H1 (natD (g x)))
    (k : ∀ p H1, Ex H H1 → H1 p = some (.dK (kv A g)) → tz D (σ.set l (some (.ref p))) H1) : tSeq (tAsg (tDc (iTup K tl) (gName j) tYes tk tv vs) (gName l)) tz D σ H :=
  d_dcT (D := { D with nx := tz D }) nd h hw hz hk hv k
theorem ed_natEq {a b : Nat} (ha : Ed K ta σ H (natD a)) (hb : Ed K tb σ H (natD b)) : Ed K (tOp rEq ta tb) σ H (.bool (a == b)) := (ed_eqI ha hb).is (by rw [nat_beq])
theorem ed_natNe {a b : Nat} (ha : Ed K ta σ H (natD a)) (hb : Ed K tb σ H (natD b)) : Ed K (tOp rNe ta tb) σ H (.bool (!(a == b))) := (ed_neI ha hb).is (by rw [nat_beq])
end
/-- the walk's word: a dict of heads -/
def RL (n : Nat → Nat → Bool) (R : List Nat) (vt vr vc : V) (H0 : Hp) (σ' : L2.St) (H' : Hp) (fact : (Nat → Nat) → Option V → Prop) : Prop :=
  ∃ (h : Nat → Nat) (p : Addr) (y4 y5 y8 y9 : Option V), σ' = [some vt, some vr, some vc, some (.ref p), y4, y5, none, none, y8, y9] ∧ Ex H0 H' ∧ H' p = some (.dK (kv R h)) ∧ Heads n R h ∧ fact h y4
section
variable {P : Program} {w : World} {K : PySem.W.Frag} {mg : Str → Option Value} {base : Heap} {f : Addr} {fd : FuncData} {k : Nat}
def spRows (K : PySem.W.Frag) : Sp := spR K 3 Pt.Ok Pt.args fun p d => ∃ L, d = nlotsD L ∧ Part (near (cell p.i.t) p.C) p.R L
theorem ok_row_lots (F : Fun K "row_lots" "row_lots" (top 17) f fd) (B : Bi mg) (C : Co mg) (G : Fn P w K mg base k "are_near" ["table", "one", "other", "columns"] (spNear K)) : FnOk P w K mg base CX0 (k + 1) f fd ["table", "rows", "columns"] (spRows K) := by
  refine F.ok sc_row_lots (fun vs H Q E h => h.elim fun _ q => q.1) (fun cdv A outer s H vs Q E hr h => ?_)
  obtain ⟨i, _, ok, hd, q⟩ := h
  obtain ⟨vt, vr, vc, rfl, ht, hrr, hc⟩ := dps_3 hd
  refine ⟨_, d_row_lots B C _ G hr, ?_⟩
  have r6 := ok.r6
  have c6 := ok.c6
  have nsym := near_symm (cell i.i.t) i.C
  refine dq_dcT (g := fun x => x) ok.rnd (ed_var rfl hrr) (fun _ => rfl) (by omega) (fun x hx H1 e1 => ed_var rfl (.int _)) (fun x hx H1 e1 => ed_var rfl (.int _)) fun p0 H1 e1 h1 => ?_
  have ht1 := dp_ex e1 _ _ ht
  have hr1 := dp_ex e1 _ _ hrr
  have hc1 := dp_ex e1 _ _ hc
  refine dq_forT (A := i.R) (enc := natD) (ed_var rfl hr1) (fun _ _ => rfl) (fun H2 m σ' H' => RL (near (cell i.i.t) i.C) i.R vt vr vc H2 σ' H' fun h _ => ∀ a ∈ i.R.take m, ∀ b ∈ i.R, near (cell i.i.t) i.C a b = true → h a = h b)
    (fun H2 e2 => ⟨fun x => x, p0, none, none, none, none, rfl, Ex.refl _, e2 _ _ h1, heads_start, fun a ha => by simp at ha⟩) (fun H2 m σ' H' _ hp => ?_) (fun m a v σ' H2 H' e2 ha hv hp => ?_) fun H2 σ' H' e2 hp => ?_
  · obtain ⟨h, p, y4, y5, y8, y9, rfl, ex, _⟩ := hp
    exact ts_ex ex
  · obtain ⟨h, p, y4, y5, y8, y9, rfl, ex, hH, hh, hf⟩ := hp
    have ev := dp_int hv
    subst ev
    have aR : a ∈ i.R := List.mem_of_getElem? ha
    have ht2 := dp_ex (e2.trans ex) _ _ ht1
    have hr2 := dp_ex (e2.trans ex) _ _ hr1
    have hc2 := dp_ex (e2.trans ex) _ _ hc1
    refine d_forT (A := i.R) (enc := natD) (ed_var rfl hr2) (fun _ _ => rfl) (fun H3 m' σ' H'' => RL (near (cell i.i.t) i.C) i.R vt vr vc H3 σ' H'' fun h y4 => y4 = some (.int (a : Nat)) ∧ (∀ a ∈ i.R.take m, ∀ b ∈ i.R, near (cell i.i.t) i.C a b = true → h a = h b) ∧ ∀ b ∈ i.R.take m', near (cell i.i.t) i.C a b = true → h a = h b)
      (fun H3 e3 => ⟨h, p, _, y5, y8, y9, rfl, Ex.refl _, e3 _ _ hH, hh, rfl, hf, fun b hb => by simp at hb⟩) (fun H3 m' σ' H'' _ hp => ?_) (fun m' b v σ' H3 H'' e3 hb hv hp => ?_) fun H3 σ' H'' e3 hp => ?_
    · obtain ⟨h, p, y4, y5, y8, y9, rfl, ex, _⟩ := hp
      exact ts_ex ex
    · clear hf hh hH
      obtain ⟨h, p, y4, y5, y8, y9, rfl, ex3, hH, hh, rfl, hf, hg⟩ := hp
      have ev := dp_int hv
      subst ev
      have bR : b ∈ i.R := List.mem_of_getElem? hb
      have e23 := e3.trans ex3
      have ht3 := dp_ex e23 _ _ ht2
      have hr3 := dp_ex e23 _ _ hr2
      have hc3 := dp_ex e23 _ _ hc2
      have da : ∀ {σ : L2.St} {H5 : Hp}, σ[4]? = some (some (.int (a : Nat))) → Ed K (tVar 4) σ H5 (natD a) := fun h => ed_var h (.int _)
      have db : ∀ {σ : L2.St} {H5 : Hp}, σ[5]? = some (some (.int (b : Nat))) → Ed K (tVar 5) σ H5 (natD b) := fun h => ed_var h (.int _)
      refine s_when (b := !(h a == h b) && near (cell i.i.t) i.C a b) (et_and (et_testd (K := K) (ed_natNe (ed_hd rfl hH aR (da rfl)) (ed_hd rfl hH bR (db rfl)))) fun _ => et_Bd (ed_near (i := ⟨i.i, a, b, i.C⟩) (ea_consD (ed_var rfl ht3) (ea_consD (da rfl) (ea2 (db rfl) (ed_var rfl hc3)))) ⟨ok.tab, ok.r a aR, ok.r b bR, ok.c, c6⟩)) (fun cnd H4 e4 => ?_) fun cnd H4 e4 => ?_
      · have hH4 := e4 _ _ hH
        have cn : near (cell i.i.t) i.C a b = true := by
          rw [Bool.and_eq_true] at cnd
          exact cnd.2
        refine dq_asg2 (d1 := natD (min (h a) (h b))) (d2 := natD (max (h a) (h b))) ((ed_tup (ea2 (ed_min2 (ed_hd rfl hH4 aR (da rfl)) (ed_hd rfl hH4 bR (db rfl))) (ed_max2 (ed_hd rfl hH4 aR (da rfl)) (ed_hd rfl hH4 bR (db rfl)))) (Nat.le_of_ble_eq_true rfl)).is ?_) fun x y H5 e5 hx hy => ?_
        · have q1 : min ((h a : Nat) : Int) ((h b : Nat) : Int) = ((min (h a) (h b) : Nat) : Int) := by omega
          have q2 : max ((h a : Nat) : Int) ((h b : Nat) : Int) = ((max (h a) (h b) : Nat) : Int) := by omega
          rw [q1, q2]
          rfl
        have ex := dp_int hx
        have ey := dp_int hy
        subst ex ey
        have hH5 := e5 _ _ hH4
        have huv : (min (h a) (h b) = h a ∧ max (h a) (h b) = h b) ∨ (min (h a) (h b) = h b ∧ max (h a) (h b) = h a) := by omega
        refine d_dcT (g := merge h (min (h a) (h b)) (max (h a) (h b))) ok.rnd (ed_var rfl (dp_ex (e4.trans e5) _ _ hr3)) (fun _ => rfl) (by omega) (fun x hx H6 e6 => ed_var rfl (.int _)) (fun x hx H6 e6 => ?_) fun p' H6 e6 h6 => ?_
        · refine (ed_if (b := h x == max (h a) (h b)) (d := natD (merge h (min (h a) (h b)) (max (h a) (h b)) x)) (et_testd (K := K) (ed_natEq (ed_hd rfl (e6 _ _ hH5) hx (ed_var rfl (.int _))) (ed_var rfl (.int _)))) (fun c => ?_) fun c => ?_)
          · rw [merge, if_pos (beq_iff_eq.mp c)]
            exact ed_var rfl (.int _)
          · rw [merge, if_neg (beq_eq_false_iff_ne.mp c)]
            exact ed_hd rfl (e6 _ _ hH5) hx (ed_var rfl (.int _))
        · refine ⟨_, p', _, _, _, _, rfl, ((ex3.trans e4).trans e5).trans e6, h6, heads_merge nsym hh aR bR cn _ _ huv, rfl, fun a' ha' b' hb' q => merge_keep (hf a' ha' b' hb' q), fun b' hb' q => ?_⟩
          rw [take_snoc hb, List.mem_append, List.mem_singleton] at hb'
          rcases hb' with z | z
          · exact merge_keep (hg b' z q)
          · rw [z]
            exact merge_joins huv
      · refine ⟨h, p, _, _, _, _, rfl, ex3.trans e4, e4 _ _ hH, hh, rfl, hf, fun b' hb' q => ?_⟩
        rw [take_snoc hb, List.mem_append, List.mem_singleton] at hb'
        rcases hb' with z | z
        · exact hg b' z q
        · rw [z] at q ⊢
          rw [q, Bool.and_true, Bool.not_eq_false', beq_iff_eq] at cnd
          exact cnd
    · clear hf hh hH
      obtain ⟨h, p, y4, y5, y8, y9, rfl, ex3, hH, hh, rfl, hf, hg⟩ := hp
      refine ⟨h, p, _, _, _, _, rfl, (ex.trans e3).trans ex3, hH, hh, fun a' ha' b' hb' q => ?_⟩
      rw [take_snoc ha, List.mem_append, List.mem_singleton] at ha'
      rw [List.take_length] at hg
      rcases ha' with z | z
      · exact hf a' z b' hb' q
      · rw [z] at q ⊢
        exact hg b' hb' q
  · obtain ⟨h, p, y4, y5, y8, y9, rfl, ex, hH, hh, hf⟩ := hp
    rw [List.take_length] at hf
    have hr2 := dp_ex (e2.trans ex) _ _ hr1
    refine d_ret (d := nlotsD (lotsOf h i.R)) (ed_tupleL ((ed_lcT (A := i.R) (enc := natD) (p := fun x => h x == x) (f := fun x => natsD (i.R.filter fun y => h y == x)) (ed_var rfl hr2) (fun _ => rfl) (by omega) (fun _ _ => noL_nats _) (fun x hx v H3 e3 hv => ?_) fun x hx _ v H3 e3 hv => ?_).is ?_)) fun v H3 e3 hv => q _ v H3 ((e1.trans (e2.trans ex)).trans e3) ⟨_, rfl, heads_part nsym ok.rnd hh hf⟩ hv
    · exact et_testd (K := K) (ed_natEq (ed_hd rfl (e3 _ _ hH) hx (ed_var rfl hv)) (ed_var rfl hv))
    · refine ed_tupleL ((ed_lcT (A := i.R) (enc := natD) (p := fun y => h y == x) (f := natD) (ed_var rfl (dp_ex e3 _ _ hr2)) (fun _ => rfl) (by omega) (fun _ _ => rfl) (fun y hy u H4 e4 hu => ?_) fun y hy _ u H4 e4 hu => ?_).is ?_)
      · exact et_testd (K := K) (ed_natEq (ed_hd rfl (e4 _ _ (e3 _ _ hH)) hy (ed_var rfl hu)) (ed_var rfl (dp_ex e4 _ _ hv)))
      · exact ed_var rfl hu
      · rfl
    · rw [lotsOf, List.map_map]
      rfl
end
end K15
namespace K15
open PySem L2 Evl
def isNoneD : PyData → Bool
  | .none => true
  | _ => false
section
variable {K : PySem.W.Frag} {σ : L2.St} {H : Hp} {ta tb tc te tl tk tv : TE} {tt : TT} {d d1 d2 : PyData} {D : Ends} {tu tz : L2.TS} {t : TA} {ι : Type} {n : Nat} {pre : ι → Prop} {args : ι → List PyData} {out : ι → PyData} {post : ι → PyData → Prop} {E : XK}
theorem dp_isNone {v : V} (h : Dp K H v d) : decide (v = .non) = isNoneD d := by
  cases h <;> rfl
theorem ed_isNone (h : Ed K ta σ H d) : Ed K (tOp rIsNn ta (tC .non)) σ H (.bool (isNoneD d)) := ed_op h ed_non fun x y H1 _ hx hy Q q => by
  refine ⟨dp_none hy, ?_⟩
  rw [dp_isNone hx]
  exact q _ H1 (Ex.refl H1) (.bl _)
theorem ed_notNone (h : Ed K ta σ H d) : Ed K (tOp rNotNn ta (tC .non)) σ H (.bool (!isNoneD d)) := ed_op h ed_non fun x y H1 _ hx hy Q q => by
  refine ⟨dp_none hy, ?_⟩
  rw [dp_isNone hx]
  exact q _ H1 (Ex.refl H1) (.bl _)
/-- x = f(..) with a promise in a row -/
theorem dq_fnR {j : Nat} (i : ι) (h : EdA K t σ H (args i)) (hp : pre i) (hn : (args i).length = n) (k : ∀ d v H1, Ex H H1 → post i d → Dp K H1 v d → tz D (σ.set j (some v)) H1) : tSeq (tAsg (tCall (spR K n pre args post) [] E t) (gName j)) tz D σ H :=
  go_fnR (Q := fun v H1 => tz D (σ.set j (some v)) H1) i h hp hn k
theorem d_fnR (i : ι) (h : EdA K t σ H (args i)) (hp : pre i) (hn : (args i).length = n) (k : ∀ d v H1, Ex H H1 → post i d → Dp K H1 v d → D.rt v H1) : tRet (tCall (spR K n pre args post) [] E t) D σ H :=
  go_fnR (Q := D.rt) i h hp hn k
theorem d_isNoneR (i : ι) (h : EdA K t σ H (args i)) (hp : pre i) (hn : (args i).length = n) (k : ∀ d H1, Ex H H1 → post i d → D.rt (.bl (isNoneD d)) H1) : tRet (tOp rIsNn (tCall (spR K n pre args post) [] E t) (tC .non)) D σ H :=
  go_fnR (Q := fun x H1 => rIsNn x .non H1 D.rt) i h hp hn fun d v H1 e hd hv => ⟨rfl, by rw [dp_isNone hv]; exact k d H1 e hd⟩
theorem d_forL {α : Type} {A : List α} {enc : α → PyData} {j : Nat} (h : Ed K tl σ H (.list (A.map enc))) (Pv : Hp → Nat → L2.St → Hp → Prop) (h0 : ∀ H1, Ex H H1 → Pv H1 0 σ H1)
    (hl : ∀ H1 i σ' H', Ex H H1 → Pv H1 i σ' H' → Ex H1 H')
    (hs : ∀ i a v σ' H1 H', Ex H H1 → A[i]? = some a → Dp K H' v (enc a) → Pv H1 i σ' H' → tu { D with nx := Pv H1 (i + 1), ct := Pv H1 (i + 1), bk := D.nx } (σ'.set j (some v)) H')
    (hd : ∀ H1 σ' H', Ex H H1 → Pv H1 A.length σ' H' → D.nx σ' H') : tFor (iList K tl) (gName j) tu D σ H := h H (Ex.refl H) _ fun v H1 e1 hv => by
  obtain ⟨a, xs, rfl, hs', hdp⟩ := dp_lst hv
  have hlen : xs.length = A.length := by rw [dps_len hdp, List.length_map]
  refine ⟨a, rfl, ⟨xs, hs'⟩, for_list (fun i σ' H' => Pv H1 i σ' H') (h0 H1 e1) (fun i σ' H' _ p => ex_l (hl H1 i σ' H' e1 p) hs') (fun i x σ' H' hi p => ?_) fun σ' H' p => hd H1 σ' H' e1 (by rw [← hlen]; exact p)⟩
  obtain ⟨b, hb, hx⟩ := dpAll_forall enc hdp hi
  exact hs i b x σ' H1 H' e1 hb (dp_ex (hl H1 i σ' H' e1 p) _ _ hx) p
theorem dq_forL {α : Type} {A : List α} {enc : α → PyData} {j : Nat} (h : Ed K tl σ H (.list (A.map enc))) (Pv : Hp → Nat → L2.St → Hp → Prop) (h0 : ∀ H1, Ex H H1 → Pv H1 0 σ H1)
    (hl : ∀ H1 i σ' H', Ex H H1 → Pv H1 i σ' H' → Ex H1 H')
    (hs : ∀ i a v σ' H1 H', Ex H H1 → A[i]? = some a → Dp K H' v (enc a) → Pv H1 i σ' H' → tu { D with nx := Pv H1 (i + 1), ct := Pv H1 (i + 1), bk := tz D } (σ'.set j (some v)) H')
    (hd : ∀ H1 σ' H', Ex H H1 → Pv H1 A.length σ' H' → tz D σ' H') : tSeq (tFor (iList K tl) (gName j) tu) tz D σ H := d_forL (D := { D with nx := tz D }) h Pv h0 hl hs hd
end
theorem near_turn {p : Pt} (ok : p.Ok) (a b : Nat) (ha : a ∈ p.C) (hb : b ∈ p.C) : near (cell (turnT p.i.t p.i.m)) p.R a b = near (flipC (cell p.i.t)) p.R a b := by
  unfold near
  (rw [Bool.eq_iff_iff, List.any_eq_true, List.any_eq_true])
  refine exists_congr fun x => and_congr_right fun hx => ?_
  rw [cell_turn ok.tab (ok.r x hx) (ok.c a ha), cell_turn ok.tab (ok.r x hx) (ok.c b hb)]
  rfl
theorem Pt.Ok.turn {p : Pt} (ok : p.Ok) : (⟨⟨turnT p.i.t p.i.m, p.i.m, p.i.n⟩, p.C, p.R⟩ : Pt).Ok := ⟨turn_ok ok.tab, ok.cne, ok.rne, ok.c, ok.r, ok.cnd, ok.rnd⟩
section
variable {P : Program} {w : World} {K : PySem.W.Frag} {mg : Str → Option Value} {base : Heap} {f : Addr} {fd : FuncData} {k : Nat}
def spCols (K : PySem.W.Frag) : Sp := spR K 3 Pt.Ok Pt.args fun p d => ∃ L, d = nlotsD L ∧ Part (near (flipC (cell p.i.t)) p.R) p.C L
theorem ok_column_lots (F : Fun K "column_lots" "column_lots" (top 18) f fd) (B : Bi mg) (C : Co mg) (G1 : Fn P w K mg base k "turned_table" ["table"] (spTurned K)) (G2 : Fn P w K mg base k "row_lots" ["table", "rows", "columns"] (spRows K)) : FnOk P w K mg base CX0 (k + 1) f fd ["table", "rows", "columns"] (spCols K) := by
  refine F.ok sc_column_lots (fun vs H Q E h => h.elim fun _ q => q.1) (fun cdv A outer s H vs Q E hr h => ?_)
  obtain ⟨i, _, ok, hd, q⟩ := h
  obtain ⟨vt, vr, vc, rfl, ht, hrr, hc⟩ := dps_3 hd
  refine ⟨_, d_column_lots B C _ _ G1 G2 hr, ?_⟩
  refine d_fnR (⟨⟨turnT i.i.t i.i.m, i.i.m, i.i.n⟩, i.C, i.R⟩ : Pt) (ea_consD (ed_fn (pre := TI.ok) i.i (ea1 (ed_var rfl ht)) ok.tab rfl) (ea2 (ed_var rfl hc) (ed_var rfl hrr))) ok.turn rfl fun d v H1 e1 hp hv => ?_
  obtain ⟨L, rfl, hL⟩ := hp
  exact q _ v H1 e1 ⟨L, rfl, hL.congr (near_turn ok)⟩ hv
/-! ### next_parts -/
abbrev Prt := List Nat × List Nat
def prtD (l : Prt) : PyData := .tuple [natsD l.1, natsD l.2]
def Pt.at (p : Pt) (l : Prt) : Pt := ⟨p.i, l.1, l.2⟩
def NextPost (p : Pt) (d : PyData) : Prop := (d = .none ∧ ¬ NoKnot (cell p.i.t) p.R p.C) ∨ ∃ Ls : List Prt, d = .list (Ls.map prtD) ∧ (NoKnot (cell p.i.t) p.R p.C ↔ ∀ l ∈ Ls, NoKnot (cell p.i.t) l.1 l.2) ∧ ∀ l ∈ Ls, (p.at l).Ok ∧ l.1.length + l.2.length < p.R.length + p.C.length
def spNext (K : PySem.W.Frag) : Sp := spR K 3 Pt.Ok Pt.args NextPost
theorem len_gt {L : List (List Nat)} : decide ((1 : Int) < ((L.map natsD).length : Nat)) = decide (1 < L.length) := by
  rw [List.length_map]
  (exact decide_eq_decide.mpr (by omega))
theorem rows_at {p : Pt} (ok : p.Ok) {L : List (List Nat)} (hL : Part (near (cell p.i.t) p.C) p.R L) (h1 : 1 < L.length) : ∀ l ∈ L, (p.at (l, p.C)).Ok ∧ l.length + p.C.length < p.R.length + p.C.length := fun l hl => by
  refine ⟨⟨ok.tab, hL.ne l hl, ok.cne, fun x hx => ok.r x (hL.sub l hl x hx), ok.c, hL.nd l hl, ok.cnd⟩, ?_⟩
  have := hL.small h1 l hl
  omega
theorem cols_at {p : Pt} (ok : p.Ok) {L : List (List Nat)} (hL : Part (near (flipC (cell p.i.t)) p.R) p.C L) (h1 : 1 < L.length) : ∀ l ∈ L, (p.at (p.R, l)).Ok ∧ p.R.length + l.length < p.R.length + p.C.length := fun l hl => by
  refine ⟨⟨ok.tab, ok.rne, hL.ne l hl, ok.r, fun x hx => ok.c x (hL.sub l hl x hx), ok.rnd, hL.nd l hl⟩, ?_⟩
  have := hL.small h1 l hl
  omega
theorem ok_next_parts (F : Fun K "next_parts" "next_parts" (top 20) f fd) (B : Bi mg) (C : Co mg) (G1 : Fn P w K mg base k "is_one" ["table", "rows", "columns"] (spOne K)) (G2 : Fn P w K mg base k "row_lots" ["table", "rows", "columns"] (spRows K)) (G3 : Fn P w K mg base k "column_lots" ["table", "rows", "columns"] (spCols K)) : FnOk P w K mg base CX0 (k + 1) f fd ["table", "rows", "columns"] (spNext K) := by
  refine F.ok sc_next_parts (fun vs H Q E h => h.elim fun _ q => q.1) (fun cdv A outer s H vs Q E hr h => ?_)
  obtain ⟨i, _, ok, hd, q⟩ := h
  obtain ⟨vt, vr, vc, rfl, ht, hrr, hc⟩ := dps_3 hd
  refine ⟨_, d_next_parts B C _ _ _ G1 G2 G3 hr, ?_⟩
  refine q_when (et_Bd (ed_fn (pre := Pt.Ok) i (ea_consD (ed_var rfl ht) (ea2 (ed_var rfl hrr) (ed_var rfl hc))) ok rfl)) (fun c H1 e1 => ?_) fun c H1 e1 => ?_
  · refine d_ret (ed_lst ea_nilD (Nat.le_of_ble_eq_true rfl)) fun v H2 e2 hv => q _ v H2 (e1.trans e2) (.inr ⟨[], rfl, ?_, fun _ z => (by cases z)⟩) hv
    exact ⟨fun _ _ z => (by cases z), fun _ => noKnot_one ok.rne ok.cne c⟩
  have ht1 := dp_ex e1 _ _ ht
  have hr1 := dp_ex e1 _ _ hrr
  have hc1 := dp_ex e1 _ _ hc
  refine dq_fnR i (ea_consD (ed_var rfl ht1) (ea2 (ed_var rfl hr1) (ed_var rfl hc1))) ok rfl fun d v H2 e2 hp hv => ?_
  obtain ⟨L, rfl, hL⟩ := hp
  have r6 := ok.r6
  have c6 := ok.c6
  have lf := hL.few
  refine q_when (b := decide (1 < L.length)) ((et_testd ((ed_I0 (i := ((L.map natsD).length : Nat)) (j := 1) (d := .bool (decide (1 < L.length))) (ed_lenT (ed_var rfl hv)) ed_int fun H1 => by rw [len_gt]; exact .bl _)))) (fun c2 H3 e3 => ?_) fun c2 H3 e3 => ?_
  · refine d_ret (ed_lcT (A := L) (enc := natsD) (p := fun _ => true) (f := fun l => prtD (l, i.C)) (ed_var rfl (dp_ex e3 _ _ hv)) (fun _ => rfl) (by omega) (fun l _ => by rw [prtD, noL, noLs, noL_nats, noLs, noL_nats]; rfl) (fun _ _ _ _ _ _ => et_yes) fun l hl _ u H4 e4 hu => ?_) fun v H4 e4 hv4 => ?_
    · exact ed_tup (ea2 (ed_var rfl hu) (ed_var rfl (dp_ex (e2.trans (e3.trans e4)) _ _ hc1))) (Nat.le_of_ble_eq_true rfl)
    · have hgt := of_decide_eq_true c2
      refine q _ v H4 (e1.trans (e2.trans (e3.trans e4))) (.inr ⟨L.map fun l => (l, i.C), ?_, ?_, fun l hl => ?_⟩) hv4
      · rw [filter_yes, List.map_map]
        rfl
      · rw [down_rows hL]
        simp only [List.mem_map, forall_exists_index, and_imp, forall_apply_eq_imp_iff₂]
      · obtain ⟨l', hl', rfl⟩ := List.mem_map.mp hl
        exact rows_at ok hL hgt l' hl'
  have e13 := e2.trans e3
  refine dq_fnR i (ea_consD (ed_var rfl (dp_ex e13 _ _ ht1)) (ea2 (ed_var rfl (dp_ex e13 _ _ hr1)) (ed_var rfl (dp_ex e13 _ _ hc1)))) ok rfl fun d v2 H4 e4 hp hv2 => ?_
  obtain ⟨M, rfl, hM⟩ := hp
  have mf := hM.few
  have e14 := e13.trans e4
  refine d_ret (K := K) (d := if 1 < M.length then .list (M.map fun l => prtD (i.R, l)) else .none) (ed_if (b := decide (1 < M.length)) ((et_testd (K := K) ((ed_I0 (i := ((M.map natsD).length : Nat)) (j := 1) (d := .bool (decide (1 < M.length))) (ed_lenT (ed_var rfl hv2)) ed_int fun H1 => by rw [len_gt]; exact .bl _)))) (fun c3 => ?_) fun c3 => ?_) fun v5 H5 e5 hv5 => ?_
  · rw [if_pos (of_decide_eq_true c3)]
    refine (ed_lcT (A := M) (enc := natsD) (p := fun _ => true) (f := fun l => prtD (i.R, l)) (ed_var rfl hv2) (fun _ => rfl) (by omega) (fun l _ => by rw [prtD, noL, noLs, noL_nats, noLs, noL_nats]; rfl) (fun _ _ _ _ _ _ => et_yes) fun l hl _ u H6 e6 hu => ?_).is ?_
    · exact ed_tup (ea2 (ed_var rfl (dp_ex (e14.trans e6) _ _ hr1)) (ed_var rfl hu)) (Nat.le_of_ble_eq_true rfl)
    · rw [filter_yes]
  · rw [if_neg (of_decide_eq_false c3)]
    exact ed_non
  · have ex := e1.trans (e14.trans e5)
    by_cases c3 : 1 < M.length
    · rw [if_pos c3] at hv5
      refine q _ v5 H5 ex (.inr ⟨M.map fun l => (i.R, l), ?_, ?_, fun l hl => ?_⟩) hv5
      · rw [List.map_map]
        rfl
      · rw [down_cols hM]
        simp only [List.mem_map, forall_exists_index, and_imp, forall_apply_eq_imp_iff₂]
      · obtain ⟨l', hl', rfl⟩ := List.mem_map.mp hl
        exact cols_at ok hM c3 l' hl'
    · rw [if_neg c3] at hv5
      exact q _ v5 H5 ex (.inl ⟨rfl, stuck_knot ok.rne ok.cne c hL hM (of_decide_eq_false c2) c3⟩) hv5
/-! ### stuck_from -/
def StuckPost (p : Pt) (d : PyData) : Prop := isNoneD d = true ↔ NoKnot (cell p.i.t) p.R p.C
def spStuck (K : PySem.W.Frag) (N : Nat) : Sp := spR K 3 (fun p => p.Ok ∧ p.R.length + p.C.length ≤ N) Pt.args StuckPost
theorem stuck_0 : FnOk P w K mg base CX0 0 f fd ["table", "rows", "columns"] (spStuck K 0) := by
  have no : ∀ vs H Q E, ¬ spStuck K 0 vs H Q E := fun vs H Q E h => by
    obtain ⟨p, _, ⟨ok, h1⟩, _⟩ := h
    have := List.length_pos_iff.mpr ok.rne
    omega
  (exact ⟨fun vs H Q E h => absurd h (no vs H Q E), fun A outer s H args us vs Q E _ _ _ _ h => absurd h (no vs H Q E)⟩)
theorem ok_stuck_from {N : Nat} (F : Fun K "stuck_from" "stuck_from" (top 21) f fd) (B : Bi mg) (C : Co mg) (G1 : Fn P w K mg base k "next_parts" ["table", "rows", "columns"] (spNext K)) (G2 : Fn P w K mg base k "stuck_from" ["table", "rows", "columns"] (spStuck K N)) : FnOk P w K mg base CX0 (k + 1) f fd ["table", "rows", "columns"] (spStuck K (N + 1)) := by
  refine F.ok sc_stuck_from (fun vs H Q E h => h.elim fun _ q => q.1) (fun cdv A outer s H vs Q E hr h => ?_)
  obtain ⟨i, _, ⟨ok, hN⟩, hd, q⟩ := h
  obtain ⟨vt, vr, vc, rfl, ht, hrr, hc⟩ := dps_3 hd
  refine ⟨_, d_stuck_from B C _ _ G1 G2 hr, ?_⟩
  refine dq_fnR i (ea_consD (ed_var rfl ht) (ea2 (ed_var rfl hrr) (ed_var rfl hc))) ok rfl fun d vl H1 e1 hp hv => ?_
  have ht1 := dp_ex e1 _ _ ht
  have hr1 := dp_ex e1 _ _ hrr
  have hc1 := dp_ex e1 _ _ hc
  refine q_when (b := isNoneD d) (et_testd (K := K) (ed_isNone (ed_var rfl hv))) (fun c H2 e2 => ?_) fun c H2 e2 => ?_
  · rcases hp with ⟨rfl, nk⟩ | ⟨Ls, rfl, _⟩
    · exact d_ret (ed_tup (ea2 (ed_var rfl (dp_ex e2 _ _ hr1)) (ed_var rfl (dp_ex e2 _ _ hc1))) (Nat.le_of_ble_eq_true rfl)) fun v H3 e3 hv => q _ v H3 (e1.trans (e2.trans e3)) ⟨fun z => (by cases z), fun z => absurd z nk⟩ hv
    · cases c
  rcases hp with ⟨rfl, nk⟩ | ⟨Ls, rfl, hiff, hsm⟩
  · cases c
  refine dq_forL (A := Ls) (enc := prtD) (ed_var rfl (dp_ex e2 _ _ hv)) (fun H3 m σ' H' => ∃ y4 y5 : Option V, σ' = [some vt, some vr, some vc, some vl, y4, y5] ∧ Ex H3 H' ∧ ∀ l ∈ Ls.take m, NoKnot (cell i.i.t) l.1 l.2)
    (fun H3 e3 => ⟨none, none, rfl, Ex.refl _, fun a ha => by simp at ha⟩) (fun H3 m σ' H' _ hp => ?_) (fun m l v σ' H3 H' e3 hl hv4 hp => ?_) fun H3 σ' H' e3 hp => ?_
  · obtain ⟨_, _, _, ex, _⟩ := hp
    exact ex
  · obtain ⟨y4, y5, rfl, ex, hf⟩ := hp
    have lm : l ∈ Ls := List.mem_of_getElem? hl
    obtain ⟨lok, lsm⟩ := hsm l lm
    have eA := (e2.trans e3).trans ex
    refine dq_fnR (i.at l) (ea_consD (ed_var rfl (dp_ex eA _ _ ht1)) (ea2 (ed_ixT (ed_var rfl hv4) (ed_int (n := 0)) (atI_nat (j := 0) rfl)) (ed_ixT (ed_var rfl hv4) (ed_int (n := 1)) (atI_nat (j := 1) rfl)))) ⟨lok, by show l.1.length + l.2.length ≤ N; omega⟩ rfl fun d5 v5 H5 e5 hp5 hv5 => ?_
    refine s_when (b := !isNoneD d5) (et_testd (K := K) (ed_notNone (ed_var rfl hv5))) (fun c5 H6 e6 => ?_) fun c5 H6 e6 => ?_
    · refine d_ret (ed_var rfl (dp_ex e6 _ _ hv5)) fun v7 H7 e7 hv7 => q _ v7 H7 (e1.trans (eA.trans (e5.trans (e6.trans e7)))) ?_ hv7
      have c5' : isNoneD d5 = false := by simpa using c5
      (refine ⟨fun z => ?_, fun z => ?_⟩)
      · rw [c5'] at z
        cases z
      · have := hp5.mpr (hiff.mp z l lm)
        rw [c5'] at this
        cases this
    · refine ⟨_, _, rfl, (ex.trans e5).trans e6, fun l' hl' => ?_⟩
      rw [take_snoc hl, List.mem_append, List.mem_singleton] at hl'
      rcases hl' with z | z
      · exact hf l' z
      · rw [z]
        exact hp5.mp (by simpa using c5)
  · obtain ⟨y4, y5, rfl, ex, hf⟩ := hp
    rw [List.take_length] at hf
    exact d_ret ed_non fun v7 H7 e7 hv7 => q _ v7 H7 (e1.trans (e2.trans (e3.trans (ex.trans e7)))) ⟨fun _ => hiff.mpr hf, fun _ => rfl⟩ hv7
/-! ### is_told, can_be_told -/
open Classical in
noncomputable def toldB (t : Tab) (n m : Nat) : Bool := decide (NoKnot (cell t) (List.range n) (List.range m))
theorem toldB_iff {t : Tab} {n m : Nat} : toldB t n m = true ↔ NoKnot (cell t) (List.range n) (List.range m) := by
  unfold toldB
  exact @decide_eq_true_iff _ (Classical.propDecidable _)
def TI.pt (i : TI) : Pt := ⟨i, List.range i.n, List.range i.m⟩
theorem range_ne {n : Nat} (h : 1 ≤ n) : List.range n ≠ [] := fun q => by
  have := congrArg List.length q
  rw [List.length_range] at this
  simp at this
  omega
theorem pt_ok {i : TI} (ok : i.ok) : i.pt.Ok := ⟨ok, range_ne ok.n1, range_ne ok.m1, fun _ z => List.mem_range.mp z, fun _ z => List.mem_range.mp z, List.nodup_range, List.nodup_range⟩
noncomputable def spTold (K : PySem.W.Frag) : Sp := sp1 K 1 TI.ok (fun i => [tabD i.t]) fun i => .bool (toldB i.t i.n i.m)
theorem ok_is_told (F : Fun K "is_told" "is_told" (top 22) f fd) (B : Bi mg) (C : Co mg) (G1 : Fn P w K mg base k "whole" ["table"] (spWhole K)) (G2 : Fn P w K mg base k "stuck_from" ["table", "rows", "columns"] (spStuck K 12)) : FnOk P w K mg base CX0 (k + 1) f fd ["table"] (spTold K) := by
  refine F.ok sc_is_told (fun vs H Q E h => h.elim fun _ q => q.1) (fun cdv A outer s H vs Q E hr h => ?_)
  obtain ⟨i, _, ok, hd, q⟩ := h
  obtain ⟨vt, rfl, ht⟩ := dps_1 hd
  refine ⟨_, d_is_told B C _ _ G1 G2 hr, ?_⟩
  refine dq_asg2 (ed_fn (pre := TI.ok) i (ea1 (ed_var rfl ht)) ok rfl) fun x y H1 e1 hx hy => ?_
  have n6 := ok.n6
  have m6 := ok.m6
  refine d_isNoneR i.pt (ea_consD (ed_var rfl (dp_ex e1 _ _ ht)) (ea2 (ed_var rfl hx) (ed_var rfl hy))) ⟨pt_ok ok, by show (List.range i.n).length + (List.range i.m).length ≤ 12; rw [List.length_range, List.length_range]; omega⟩ rfl fun d H2 e2 hp => ?_
  refine q _ H2 (e1.trans e2) ?_
  have e : isNoneD d = toldB i.t i.n i.m := by
    rw [Bool.eq_iff_iff, toldB_iff]
    exact hp
  rw [e]
  exact .bl _
theorem ok_can_be_told (F : Fun K "can_be_told" "can_be_told" (top 23) f fd) (B : Bi mg) (C : Co mg) (G1 : Fn P w K mg base k "need_table" ["value"] (spNeedTable K)) (G2 : Fn P w K mg base k "is_told" ["table"] (spTold K)) : FnOk P w K mg base CX0 (k + 1) f fd ["table"] (spTold K) := by
  refine F.ok sc_can_be_told (fun vs H Q E h => h.elim fun _ q => q.1) (fun cdv A outer s H vs Q E hr h => ?_)
  obtain ⟨i, _, ok, hd, q⟩ := h
  obtain ⟨vt, rfl, ht⟩ := dps_1 hd
  refine ⟨_, d_can_be_told B C _ _ G1 G2 hr, ?_⟩
  refine dq_drop (ed_fn (pre := TI.ok) i (ea1 (ed_var rfl ht)) ok rfl) fun H1 e1 => ?_
  exact d_ret (ed_fn (pre := TI.ok) (out := fun i : TI => .bool (toldB i.t i.n i.m)) i (ea1 (ed_var rfl (dp_ex e1 _ _ ht))) ok rfl) fun v H2 e2 hv => q v H2 (e1.trans e2) hv
end
end K15
namespace K15
open PySem L2 Evl
open PySem.W (alike alikeAll dataLt dataLe keyToks keyToksAll AllAlike Sortable AlikeAll)
structure QI where
  i : TI
  as : List Int
  l : Lots
structure QI.Ok (q : QI) : Prop where
  tab : q.i.ok
  ans : AnsOf q.i.t q.as
  six : q.as.length ≤ 6
  lots : LotsOk q.as q.l
theorem QI.Ok.rng {q : QI} (h : q.Ok) {a : Int} (ha : a ∈ q.as) : 0 ≤ a ∧ a ≤ 99 := by
  obtain ⟨r, hr, har⟩ := (h.ans.mem a).mp ha
  exact h.tab.rng r hr a har
theorem LotsOk.flen {as : List Int} {l : Lots} (h : LotsOk as l) : l.flatten.length = as.length := h.perm.length_eq
theorem LotsOk.xlen {as : List Int} {l : Lots} (h : LotsOk as l) {x : List Int} (hx : x ∈ l) : x.length ≤ as.length := by
  rw [← h.flen]
  exact (List.sublist_flatten_of_mem hx).length_le
theorem ed_drop1 {K : PySem.W.Frag} {σ : L2.St} {H : Hp} {ta : TE} {x : List Int} (hx : x ≠ []) (h : Ed K ta σ H (rowD x)) : Ed K (tOp (rIxT K) ta (tC (.int 0))) σ H (.int (x.headD 0)) := by
  cases x with
  | nil => exact absurd rfl hx
  | cons a r => exact ed_ixT h (ed_int (n := 0)) (atI_map (f := PyData.int) (j := 0) rfl)
section
variable {P : Program} {w : World} {K : PySem.W.Frag} {mg : Str → Option Value} {base : Heap} {f : Addr} {fd : FuncData} {k : Nat}
/-! ### is_lot -/
structure LtI where
  l : List Int
structure LtI.Ok (i : LtI) : Prop where
  ne : i.l ≠ []
  asc : Asc i.l
  rng : ∀ a ∈ i.l, 0 ≤ a ∧ a ≤ 99
  few : i.l.length ≤ 36
def spLot (K : PySem.W.Frag) : Sp := sp1 K 2 LtI.Ok (fun i => [rowD i.l, .int 100]) fun _ => .bool true
theorem ok_is_lot (F : Fun K "is_lot" "is_lot" (top 14) f fd) (B : Bi mg) (C : Co mg) (G : Fn P w K mg base k "is_from" ["value", "least", "most"] (spFrom K)) : FnOk P w K mg base CX0 (k + 1) f fd ["value", "most"] (spLot K) := by
  refine F.ok sc_is_lot (fun vs H Q E h => h.elim fun _ q => q.1) (fun cdv A outer s H vs Q E hr h => ?_)
  obtain ⟨i, _, ok, hd, q⟩ := h
  obtain ⟨v, m, rfl, hv, hm⟩ := dps_2 hd
  refine ⟨_, d_is_lot B C _ G hr, ?_⟩
  have few := ok.few
  refine q_when (et_or (et_not (et_Bd (ed_isi (r := true) (ed_var rfl hv) rfl (by decide +kernel)))) fun _ => et_or (et_testd (K := K) (ed_eqD (d1 := rowD i.l) (d2 := rowD []) (ed_var rfl hv) (ed_tup ea_nilD (Nat.le_of_ble_eq_true rfl)) (shaped_row _) (shaped_row _))) fun _ => et_not (et_Bd (ed_all (bs := i.l.map fun _ => true) ((ed_lcT (A := i.l) (enc := .int) (p := fun _ => true) (f := fun _ => .bool true) (ed_var rfl hv) (fun _ => rfl) (by omega) (fun _ _ => rfl) (fun _ _ _ _ _ _ => et_yes) fun a ha _ w H2 e2 hw => ?_).is ?_)))) (fun c => ?_) fun _ H1 e1 => ?_
  · refine (ed_from (a := a) (lo := 0) (hi := 100 - 1) (ea_consD (ed_var rfl hw) (ea2 (ed_int (n := 0)) (ed_I0 (i := 100) (j := 1) (ed_var rfl (dp_ex e2 _ _ hm)) ed_int fun _ => .int _)))).is ?_
    have := ok.rng a ha
    rw [decide_eq_true this.1, decide_eq_true (show a ≤ 100 - 1 by omega)]
    rfl
  · rw [filter_yes, List.map_map]
    rfl
  · rw [all_true fun _ _ => rfl, eqv_row, decide_eq_false ok.ne] at c
    exact absurd c (by decide)
  have hv1 := dp_ex e1 _ _ hv
  refine d_ret ((ed_all (bs := (i.l.zip (i.l.drop 1)).map fun p => decide (p.1 < p.2)) ((ed_lcZ (as := i.l) (bs := i.l.drop 1) (f := fun a b => .bool (decide (a < b))) (by rw [List.length_drop]; omega) (by rw [List.length_drop]; omega) (ea2 (ed_var rfl hv1) ((ed_slT (ed_var rfl hv1) (eo_some (ev_c (v := .int ((1 : Nat) : Int)))) eo_none).is ?_)) (fun _ _ => rfl) (fun _ _ => rfl) fun m a b ha hb H2 e2 => ?_).is ?_)).is ?_) fun v H2 e2 hv => q v H2 (e1.trans e2) hv
  · rw [cutD_from, rowD, List.map_drop]
  · exact ed_I0 (i := a) (j := b) (ed_var rfl (.int _)) (ed_var rfl (.int _)) fun _ => .bl _
  · rw [List.map_map]
    rfl
  · have e : ((i.l.zip (i.l.drop 1)).map fun p => decide (p.1 < p.2)).all id = true := by
      rw [List.all_eq_true]
      intro x hx
      obtain ⟨⟨a, b⟩, hp, rfl⟩ := List.mem_map.mp hx
      obtain ⟨m, hm⟩ := List.getElem?_of_mem hp
      rw [List.getElem?_zip_eq_some, List.getElem?_drop] at hm
      obtain ⟨h1, h2⟩ := hm
      obtain ⟨l1, rfl⟩ := List.getElem?_eq_some_iff.mp h1
      obtain ⟨l2, rfl⟩ := List.getElem?_eq_some_iff.mp h2
      exact decide_eq_true (List.pairwise_iff_getElem.mp ok.asc m (1 + m) l1 l2 (by omega))
    rw [e]
/-! ### need_lots -/
def spNeedLots (K : PySem.W.Frag) : Sp := sp1 K 2 QI.Ok (fun i => [tabD i.i.t, tabD i.l]) fun _ => .none
theorem sorted_lots {as : List Int} {l : Lots} (h : LotsOk as l) : (l.map rowD).mergeSort (dataLe false id) = l.map rowD := by
  refine List.mergeSort_of_pairwise (List.pairwise_map.mpr (h.heads.imp_of_mem fun ha hb hlt => ?_))
  show (!dataLt (rowD _) (rowD _)) = true
  rw [lt_row_heads (h.ne _ ha) (h.ne _ hb) hlt]
  rfl
theorem depthAll_mem : ∀ {ds : List PyData} {d : PyData}, d ∈ ds → d.depth ≤ PyData.depthAll ds
  | [], _, h => by cases h
  | e :: ds, d, h => by
    rw [PyData.depthAll]
    (rcases List.mem_cons.mp h with rfl | h)
    · exact Nat.le_max_left _ _
    · exact Nat.le_trans (depthAll_mem h) (Nat.le_max_right _ _)
theorem eqv_lrows (t : List (List Int)) : PyData.eqv (.list (t.map rowD)) (.list (t.map rowD)) = true := by
  rw [PyData.eqv, eqv_rows]
  exact decide_eq_true rfl
theorem eqv_lints (t : List Int) : PyData.eqv (.list (t.map .int)) (.list (t.map .int)) = true := by
  rw [PyData.eqv, eqv_ints]
  exact decide_eq_true rfl
theorem lotsOk_asc {as : List Int} {l : Lots} (h : LotsOk as l) {x : List Int} (hx : x ∈ l) : Asc x := h.asc x hx
theorem flat_lot {l : Lots} : (l.flatMap fun x => x.map fun a => PyData.int a) = l.flatten.map .int := by
  rw [List.map_flatten, ← List.flatMap_def]
theorem ok_need_lots (F : Fun K "need_lots" "need_lots" (top 26) f fd) (B : Bi mg) (C : Co mg) (G1 : Fn P w K mg base k "is_lot" ["value", "most"] (spLot K)) (G2 : Fn P w K mg base k "answers_in" ["table"] (spAns K)) : FnOk P w K mg base CX0 (k + 1) f fd ["table", "value"] (spNeedLots K) := by
  refine F.ok sc_need_lots (fun vs H Q E h => h.elim fun _ q => q.1) (fun cdv A outer s H vs Q E hr h => ?_)
  obtain ⟨i, _, ok, hd, q⟩ := h
  obtain ⟨vt, v, rfl, ht, hv⟩ := dps_2 hd
  refine ⟨_, d_need_lots B C _ _ G1 G2 hr, ?_⟩
  have six := ok.six
  have ll := ok.lots.len
  have fl := ok.lots.flen
  refine q_when (et_or (et_not (et_Bd (ed_isi (r := true) (ed_var rfl hv) rfl (by decide +kernel)))) fun _ => et_not (et_Bd (ed_all (bs := i.l.map fun _ => true) ((ed_lcT (A := i.l) (enc := rowD) (p := fun _ => true) (f := fun _ => .bool true) (ed_var rfl hv) (fun _ => rfl) (by omega) (fun _ _ => rfl) (fun _ _ _ _ _ _ => et_yes) fun x hx _ w H2 e2 hw => ?_).is ?_)))) (fun c => ?_) fun _ H1 e1 => ?_
  · refine ed_fn (pre := LtI.Ok) (⟨x⟩ : LtI) (ea2 (ed_var rfl hw) (ed_I0 (i := 99) (j := 1) ed_int ed_int fun _ => .int _)) ⟨ok.lots.ne x hx, ok.lots.asc x hx, fun a ha => ok.rng (ok.lots.mem hx ha), ?_⟩ rfl
    have := ok.lots.xlen hx
    show x.length ≤ 36
    omega
  · rw [filter_yes, List.map_map]
    rfl
  · rw [all_true fun _ _ => rfl] at c
    exact absurd c (by decide)
  have hv1 := dp_ex e1 _ _ hv
  have ht1 := dp_ex e1 _ _ ht
  refine s_when (et_or (et_testd (K := K) (ed_neD (ed_listT (ed_var rfl hv1)) ((ed_sortD true (ds := i.l.map rowD) (ed_var rfl hv1) (noLs_map fun _ _ => noL_row _) (AllAlike.of alike_row) (.inl ?_) (by rw [List.length_map]; omega) fun d hd => ?_).is ?_) (shaped_lrows i.l) (shaped_lrows i.l))) fun _ => et_testd (K := K) (ed_neD (ed_sorted (ns := i.l.flatten) (ms := i.as) ((ed_lc2 (A := i.l) (enc := rowD) (B := fun x => x) (encB := fun _ a => .int a) (f := fun _ a => .int a) (ed_var rfl hv1) (fun _ => rfl) (fun _ _ => rfl) ?_ (fun _ _ _ _ => rfl) (fun _ _ _ _ => rfl) (fun r hr w H4 e4 hw => ed_var rfl hw) fun r hr a ha w u H4 e4 hw hu => ed_var rfl hu).is ?_) (by omega) fun xs hp hx => lotsOk_sorted ok.ans.asc ok.lots hp hx) (ed_listT (ed_fn (pre := fun i : AI => i.i.ok ∧ AnsOf i.i.t i.as) (out := fun i : AI => rowD i.as) (⟨i.i, i.as⟩ : AI) (ea1 (ed_var rfl ht1)) ⟨ok.tab, ok.ans⟩ rfl)) (shaped_lints i.as) (shaped_lints i.as))) (fun c => ?_) fun _ H2 e2 => q .non H2 (e1.trans e2) .non
  · intro d hd
    obtain ⟨x, hx, rfl⟩ := List.mem_map.mp hd
    have hne := ok.lots.ne x hx
    cases x with
    | nil => exact absurd rfl hne
    | cons a r => exact ⟨.int a, r.map .int, rfl⟩
  · have := depthAll_mem hd
    have := depth_rows i.l
    omega
  · rw [sorted_lots ok.lots]
  · rw [flat_lot, List.length_map]
    omega
  · rw [flat_lot]
  · rw [eqv_lrows, eqv_lints] at c
    exact absurd c (by decide)
/-! ### blurred_by, blurred -/
def spBlur (K : PySem.W.Frag) : Sp := sp1 K 2 QI.Ok (fun i => [tabD i.i.t, tabD i.l]) fun i => tabD (blurT i.l i.i.t)
theorem ok_blurred_by (F : Fun K "blurred_by" "blurred_by" (top 27) f fd) (B : Bi mg) (C : Co mg) : FnOk P w K mg base CX0 (k + 1) f fd ["table", "lots"] (spBlur K) := by
  refine F.ok sc_blurred_by (fun vs H Q E h => h.elim fun _ q => q.1) (fun cdv A outer s H vs Q E hr h => ?_)
  obtain ⟨i, _, ok, hd, q⟩ := h
  obtain ⟨vt, v, rfl, ht, hv⟩ := dps_2 hd
  refine ⟨_, d_blurred_by B C hr, ?_⟩
  have six := ok.six
  have fl := ok.lots.flen
  have n6 := ok.tab.n6
  have m6 := ok.tab.m6
  refine go_dc2 (Q := fun x H1 => tSeq (tAsg (fun _ H Q => Q x H) (gName 2)) _ _ _ H1) (A := i.l) (g := headOf i.l) (ed_var rfl hv) (fun _ => rfl) (fun _ _ => rfl) (by omega) (fun x hx v H1 e1 h1 => ed_var rfl h1) (fun x hx b hb v H1 e1 h1 => ed_var rfl (.int _)) (fun x hx b hb v H1 e1 h1 => ?_) fun p kvs H1 e1 hp hf => ?_
  · refine (ed_drop1 (ok.lots.ne x hx) (ed_var rfl h1)).is ?_
    rw [headOf_eq ok.ans.asc ok.lots hx hb]
  have ht1 := dp_ex e1 _ _ ht
  refine d_ret (d := tabD (blurT i.l i.i.t)) (ed_tupleL ((ed_lcT (A := i.i.t) (enc := rowD) (p := fun _ => true) (f := fun r => rowD (r.map (headOf i.l))) (ed_var rfl ht1) (fun _ => rfl) (by rw [ok.tab.rows]; omega) (fun _ _ => noL_row _) (fun _ _ _ _ _ _ => et_yes) fun r hr _ w H2 e2 hw => ?_).is ?_)) fun v H2 e2 hv => q v H2 (e1.trans e2) hv
  · refine ed_tupleL ((ed_lcT (A := r) (enc := .int) (p := fun _ => true) (f := fun a => .int (headOf i.l a)) (ed_var rfl hw) (fun _ => rfl) (by rw [ok.tab.cols r hr]; omega) (fun _ _ => rfl) (fun _ _ _ _ _ _ => et_yes) fun a ha _ u H3 e3 hu => ?_).is ?_)
    · refine ed_dget (ev_var rfl) (e3 _ _ (e2 _ _ hp)) (ed_var rfl hu) (hf a ?_) fun _ _ => .int _
      exact ok.lots.perm.mem_iff.mpr ((ok.ans.mem a).mpr ⟨r, hr, ha⟩)
    · rw [filter_yes, List.map_map]
      rfl
  · rw [filter_yes, blurT, List.map_map]
    rfl
end
end K15
namespace K15
open PySem L2 Evl
open PySem.W (alike alikeAll dataLt dataLe keyToks keyToksAll AllAlike Sortable AlikeAll)
section
variable {K : PySem.W.Frag} {σ : L2.St} {H : Hp} {ta tb tc te tl tk tv : TE} {tt : TT} {d d1 d2 : PyData} {D : Ends} {tu tz : L2.TS} {t : TA}
/-- for x, y in l -/
theorem d_forLp {α : Type} {A : List α} {e1 e2 : α → PyData} {j j2 : Nat} (h : Ed K tl σ H (.list (A.map fun a => .tuple [e1 a, e2 a]))) (Pv : Hp → Nat → L2.St → Hp → Prop) (h0 : ∀ H1, Ex H H1 → Pv H1 0 σ H1)
    (hl : ∀ H1 i σ' H', Ex H H1 → Pv H1 i σ' H' → Ex H1 H')
    (hs : ∀ i a v u σ' H1 H', Ex H H1 → A[i]? = some a → Dp K H' v (e1 a) → Dp K H' u (e2 a) → Pv H1 i σ' H' → tu { D with nx := Pv H1 (i + 1), ct := Pv H1 (i + 1), bk := D.nx } ((σ'.set j (some v)).set j2 (some u)) H')
    (hd : ∀ H1 σ' H', Ex H H1 → Pv H1 A.length σ' H' → D.nx σ' H') : tFor (iList K tl) (gTup K 2 (gCons (gName j) (gCons (gName j2) gNil))) tu D σ H := h H (Ex.refl H) _ fun v H1 q1 hv => by
  obtain ⟨a, xs, rfl, hs', hdp⟩ := dp_lst hv
  have hlen : xs.length = A.length := by rw [dps_len hdp, List.length_map]
  refine ⟨a, rfl, ⟨xs, hs'⟩, for_list (fun i σ' H' => Pv H1 i σ' H') (h0 H1 q1) (fun i σ' H' _ p => ex_l (hl H1 i σ' H' q1 p) hs') (fun i x σ' H' hi p => ?_) fun σ' H' p => hd H1 σ' H' q1 (by rw [← hlen]; exact p)⟩
  obtain ⟨b, hb, hx⟩ := dpAll_forall (fun a => .tuple [e1 a, e2 a]) hdp hi
  exact d_pair (Q := fun σ2 H2 => tu { D with nx := Pv H1 (i + 1), ct := Pv H1 (i + 1), bk := D.nx } σ2 H2) (dp_ex (hl H1 i σ' H' q1 p) _ _ hx) fun x y h1 h2 => hs i b x y σ' H1 H' q1 hb h1 h2 p
theorem dq_forLp {α : Type} {A : List α} {e1 e2 : α → PyData} {j j2 : Nat} (h : Ed K tl σ H (.list (A.map fun a => .tuple [e1 a, e2 a]))) (Pv : Hp → Nat → L2.St → Hp → Prop) (h0 : ∀ H1, Ex H H1 → Pv H1 0 σ H1)
    (hl : ∀ H1 i σ' H', Ex H H1 → Pv H1 i σ' H' → Ex H1 H')
    (hs : ∀ i a v u σ' H1 H', Ex H H1 → A[i]? = some a → Dp K H' v (e1 a) → Dp K H' u (e2 a) → Pv H1 i σ' H' → tu { D with nx := Pv H1 (i + 1), ct := Pv H1 (i + 1), bk := tz D } ((σ'.set j (some v)).set j2 (some u)) H')
    (hd : ∀ H1 σ' H', Ex H H1 → Pv H1 A.length σ' H' → tz D σ' H') : tSeq (tFor (iList K tl) (gTup K 2 (gCons (gName j) (gCons (gName j2) gNil))) tu) tz D σ H := d_forLp (D := { D with nx := tz D }) h Pv h0 hl hs hd
/-- l[:at] + (l[at] + (a,),) + l[at+1:] -/
theorem ed_extAt {l : Lots} {a : Int} {i j ja ji : Nat} (hi : i < l.length) (hz : l.length ≤ 1000) (hx : ∀ x ∈ l, x.length ≤ 1000) (hl : Ed K (tVar j) σ H (tabD l)) (ha : Ed K (tVar ja) σ H (.int a)) (h5 : Ed K (tVar ji) σ H (.int (i : Nat))) :
    Ed K (tOp (rCatA K) (tOp (rCatA K) (tSl (rSlA K) (tVar j) tNoPart (tPart (tVar ji))) (tTup (tCons (tOp (rCatA K) (tOp (rIxT K) (tVar j) (tVar ji)) (tTup (tCons (tVar ja) tNil))) tNil))) (tSl (rSlA K) (tVar j) (tPart (tOp rAddI (tVar ji) (tC (.int 1)))) tNoPart)) σ H (tabD (extAt a l i)) := by
  have hm : l[i]? = some (l.getD i []) := by
    (rw [List.getD_eq_getElem?_getD, List.getElem?_eq_getElem hi])
    rfl
  have hxl := hx _ (List.mem_of_getElem? hm)
  have s1 : Ed K (tSl (rSlA K) (tVar j) tNoPart (tPart (tVar ji))) σ H (tabD (l.take i)) := by
    refine (ed_slT hl eo_none (eo_some (ev_ed h5))).is ?_
    rw [cutD_to (by rw [List.length_map]; omega), tabD, List.map_take]
  have s3 : Ed K (tSl (rSlA K) (tVar j) (tPart (tOp rAddI (tVar ji) (tC (.int 1)))) tNoPart) σ H (tabD (l.drop (i + 1))) := by
    refine (ed_slT hl (eo_some (i := ((i + 1 : Nat) : Int)) (ev_ed (ed_I0 (i := (i : Nat)) (j := 1) h5 ed_int fun _ => .int _))) eo_none).is ?_
    rw [cutD_from, tabD, List.map_drop]
  have s2 : Ed K (tOp (rCatA K) (tOp (rIxT K) (tVar j) (tVar ji)) (tTup (tCons (tVar ja) tNil))) σ H (rowD (l.getD i [] ++ [a])) := by
    refine (ed_cat (ed_ixT (d := rowD (l.getD i [])) hl h5 (atI_map hm)) (ed_tup (ea1 ha) (Nat.le_of_ble_eq_true rfl)) (by rw [List.length_map, List.length_singleton]; omega)).is ?_
    rw [rowD, List.map_append]
    rfl
  have s12 : Ed K (tOp (rCatA K) (tSl (rSlA K) (tVar j) tNoPart (tPart (tVar ji))) (tTup (tCons (tOp (rCatA K) (tOp (rIxT K) (tVar j) (tVar ji)) (tTup (tCons (tVar ja) tNil))) tNil))) σ H (tabD (l.take i ++ [l.getD i [] ++ [a]])) := by
    refine (ed_cat s1 (ed_tup (ea1 s2) (Nat.le_of_ble_eq_true rfl)) (by rw [List.length_map, List.length_take, List.length_singleton]; omega)).is ?_
    rw [tabD, List.map_append]
    rfl
  refine (ed_cat s12 s3 (by rw [List.length_map, List.length_map, List.length_append, List.length_take, List.length_drop, List.length_singleton]; omega)).is ?_
  rw [← List.map_append]
  rfl
/-- l + ((a,),) -/
theorem ed_extN {l : Lots} {a : Int} {j ja : Nat} (hz : l.length ≤ 1000) (hl : Ed K (tVar j) σ H (tabD l)) (ha : Ed K (tVar ja) σ H (.int a)) :
    Ed K (tOp (rCatA K) (tVar j) (tTup (tCons (tTup (tCons (tVar ja) tNil)) tNil))) σ H (tabD (l ++ [[a]])) := by
  refine (ed_cat hl (ed_tup (ea1 (ed_tup (ea1 ha) (Nat.le_of_ble_eq_true rfl))) (Nat.le_of_ble_eq_true rfl)) (by rw [List.length_map, List.length_singleton]; omega)).is ?_
  rw [tabD, List.map_append]
  rfl
end
theorem asc_take {as : List Int} (h : Asc as) (i : Nat) : Asc (as.take i) := List.Pairwise.sublist (List.take_sublist i as) h
theorem found_ok {as : List Int} (h : Asc as) (h6 : as.length ≤ 6) (i : Nat) : (progAll (as.take i)).length ≤ 720 ∧ (lawAll (as.take i)).length ≤ 720 ∧ ∀ l ∈ progAll (as.take i), l.length ≤ 6 ∧ ∀ x ∈ l, x.length ≤ 6 := by
  have hp := all_perm (as.take i)
  have ht := asc_take h i
  have hl : (as.take i).length ≤ 6 := by
    rw [List.length_take]
    omega
  have hc := Nat.le_trans (lawAll_count _ ht) (fact_mono hl)
  have e : fact 6 = 720 := rfl
  rw [e] at hc
  refine ⟨by rw [hp.length_eq]; exact hc, hc, fun l hlm => ?_⟩
  have ok := lawAll_ok _ ht l (hp.mem_iff.mp hlm)
  have := ok.len
  (refine ⟨by omega, fun x hx => ?_⟩)
  have := ok.xlen hx
  omega
theorem progAll_snoc (as : List Int) (a : Int) : progAll (as ++ [a]) = progStep (progAll as) a := by
  unfold progAll
  rw [List.foldl_append]
  rfl
theorem flat_bound {A : List Lots} {a : Int} (h : ∀ l ∈ A, l.length ≤ 6) : (A.flatMap fun l => (List.range l.length).map (extAt a l)).length ≤ A.length * 6 := by
  rw [List.length_flatMap]
  have := sum_le_mul (A.map fun l => ((List.range l.length).map (extAt a l)).length) 6 (fun x hx => by
    obtain ⟨l, hl, rfl⟩ := List.mem_map.mp hx
    (rw [List.length_map, List.length_range])
    exact h l hl)
  rw [List.length_map] at this
  exact this
section
variable {P : Program} {w : World} {K : PySem.W.Frag} {mg : Str → Option Value} {base : Heap} {f : Addr} {fd : FuncData} {k : Nat}
theorem ok_blurred (F : Fun K "blurred" "blurred" (top 28) f fd) (B : Bi mg) (C : Co mg) (G1 : Fn P w K mg base k "need_table" ["value"] (spNeedTable K)) (G2 : Fn P w K mg base k "need_lots" ["table", "value"] (spNeedLots K)) (G3 : Fn P w K mg base k "blurred_by" ["table", "lots"] (spBlur K)) : FnOk P w K mg base CX0 (k + 1) f fd ["table", "lots"] (spBlur K) := by
  refine F.ok sc_blurred (fun vs H Q E h => h.elim fun _ q => q.1) (fun cdv A outer s H vs Q E hr h => ?_)
  obtain ⟨i, _, ok, hd, q⟩ := h
  obtain ⟨vt, v, rfl, ht, hv⟩ := dps_2 hd
  refine ⟨_, d_blurred B C _ _ _ G1 G2 G3 hr, ?_⟩
  refine dq_drop (ed_fn (pre := TI.ok) i.i (ea1 (ed_var rfl ht)) ok.tab rfl) fun H1 e1 => ?_
  refine dq_drop (ed_fn (pre := QI.Ok) i (ea2 (ed_var rfl (dp_ex e1 _ _ ht)) (ed_var rfl (dp_ex e1 _ _ hv))) ok rfl) fun H2 e2 => ?_
  have e12 := e1.trans e2
  exact d_ret (ed_fn (pre := QI.Ok) (out := fun i : QI => tabD (blurT i.l i.i.t)) i (ea2 (ed_var rfl (dp_ex e12 _ _ ht)) (ed_var rfl (dp_ex e12 _ _ hv))) ok rfl) fun v H3 e3 hv => q v H3 (e12.trans e3) hv
/-! ### all_blurs -/
structure BI where
  as : List Int
def BI.Ok (i : BI) : Prop := Asc i.as ∧ i.as.length ≤ 6
def lotsD (A : List Lots) : PyData := .list (A.map tabD)
def spAll (K : PySem.W.Frag) : Sp := sp1 K 1 BI.Ok (fun i => [rowD i.as]) fun i => lotsD (progAll i.as)
theorem ok_all_blurs (F : Fun K "all_blurs" "all_blurs" (top 29) f fd) (B : Bi mg) (C : Co mg) : FnOk P w K mg base CX0 (k + 1) f fd ["answers"] (spAll K) := by
  refine F.ok sc_all_blurs (fun vs H Q E h => h.elim fun _ q => q.1) (fun cdv A outer s H vs Q E hr h => ?_)
  obtain ⟨i, _, ⟨asc, six⟩, hd, q⟩ := h
  obtain ⟨va, rfl, ha⟩ := dps_1 hd
  refine ⟨_, d_all_blurs B C hr, ?_⟩
  refine dq_asg (K := K) (d := lotsD [[]]) (ed_lst (ea1 (ed_tup ea_nilD (Nat.le_of_ble_eq_true rfl))) (Nat.le_of_ble_eq_true rfl)) fun vf H1 e1 hf => ?_
  have ha1 := dp_ex e1 _ _ ha
  refine dq_forT (A := i.as) (enc := .int) (ed_var rfl ha1) (fun _ _ => rfl) (fun H2 m σ' H' => ∃ (vf : V) (y2 y3 y4 y5 : Option V), σ' = [some va, some vf, y2, y3, y4, y5] ∧ Ex H2 H' ∧ Dp K H' vf (lotsD (progAll (i.as.take m))))
    (fun H2 e2 => ⟨vf, none, none, none, none, rfl, Ex.refl _, dp_ex e2 _ _ hf⟩) (fun H2 m σ' H' _ hp => ?_) (fun m a v σ' H2 H' e2 hm hv hp => ?_) fun H2 σ' H' e2 hp => ?_
  · obtain ⟨_, _, _, _, _, _, ex, _⟩ := hp
    exact ts_ex ex
  · clear hf
    obtain ⟨vf, y2, y3, y4, y5, rfl, ex, hf⟩ := hp
    have ev := dp_int hv
    subst ev
    obtain ⟨z1, _, z2⟩ := found_ok asc six m
    obtain ⟨z3, _, _⟩ := found_ok asc six (m + 1)
    refine dq_asg (d := lotsD ((progAll (i.as.take m)).map fun l => l ++ [[a]])) ((ed_lcL (A := progAll (i.as.take m)) (enc := tabD) (p := fun _ => true) (f := fun l => tabD (l ++ [[a]])) (ed_var rfl hf) (fun _ => rfl) (by omega) (fun _ _ => noL_tab _) (fun _ _ _ _ _ _ => et_yes) fun l hl _ u H3 e3 hu => ?_).is ?_) fun vl H3 e3 hvl => ?_
    · exact ed_extN (by have := (z2 l hl).1; omega) (ed_var rfl hu) (ed_var rfl (.int _))
    · rw [filter_yes, lotsD, List.map_map]
      rfl
    · refine dq_forL (A := progAll (i.as.take m)) (enc := tabD) (ed_var rfl (dp_ex e3 _ _ hf)) (fun H4 j σ' H' => ∃ (vl : V) (y4 : Option V), σ' = [some va, some vf, some (.int a), some vl, y4, y5] ∧ Ex H4 H' ∧ Dp K H' vl (lotsD (((progAll (i.as.take m)).map fun l => l ++ [[a]]) ++ ((progAll (i.as.take m)).take j).flatMap fun l => (List.range l.length).map (extAt a l))))
        (fun H4 e4 => ⟨vl, y4, rfl, Ex.refl _, ?_⟩) (fun H4 j σ' H' _ hp => ?_) (fun j l v σ' H4 H' e4 hj hv hp => ?_) fun H4 σ' H' e4 hp => ?_
      · rw [List.take_zero, List.flatMap_nil, List.append_nil]
        exact dp_ex e4 _ _ hvl
      · obtain ⟨_, _, _, ex, _⟩ := hp
        exact ex
      · clear hvl
        obtain ⟨vl, y4, rfl, ex4, hvl⟩ := hp
        have hlm : l ∈ progAll (i.as.take m) := List.mem_of_getElem? hj
        obtain ⟨l6, x6⟩ := z2 l hlm
        have fb := flat_bound (A := (progAll (i.as.take m)).take j) (a := a) fun l hl => (z2 l (List.mem_of_mem_take hl)).1
        have tl := List.length_take_le' j (progAll (i.as.take m))
        refine d_asg (ed_catL (ed_var rfl hvl) (ed_lcR (n := l.length) (p := fun _ => true) (f := fun at' => tabD (extAt a l at')) (ea1 ((ed_lenT (ed_var rfl hv)).is (by rw [List.length_map]))) (fun _ => rfl) (by omega) (fun _ _ => noL_tab _) (fun _ _ _ _ => et_yes) fun at' hat _ H5 e5 => ?_) ?_) fun vl2 H5 e5 hvl2 => ⟨vl2, _, rfl, ex4.trans e5, ?_⟩
        · exact ed_extAt hat (by omega) (fun x hx => by have := x6 x hx; omega) (ed_var rfl (dp_ex e5 _ _ hv)) (ed_var rfl (.int _)) (ed_var rfl (.int _))
        · rw [filter_yes, List.length_map, List.length_map, List.length_range, List.length_append, List.length_map]
          omega
        · rw [filter_yes] at hvl2
          rw [take_snoc hj, List.flatMap_append, List.flatMap_singleton, ← List.append_assoc, lotsD, List.map_append, List.map_map]
          exact hvl2
      · clear hvl
        obtain ⟨vl, y4, rfl, ex4, hvl⟩ := hp
        rw [List.take_length] at hvl
        refine d_asg (ed_var rfl hvl) fun v5 H5 e5 hv5 => ⟨v5, _, _, _, _, rfl, (((ex.trans e3).trans e4).trans ex4).trans e5, ?_⟩
        rw [take_snoc hm, progAll_snoc]
        exact hv5
  · clear hf
    obtain ⟨vf, y2, y3, y4, y5, rfl, ex, hf⟩ := hp
    rw [List.take_length] at hf
    exact d_ret (ed_var rfl hf) fun v H3 e3 hv => q v H3 (e1.trans (e2.trans (ex.trans e3))) hv
end
end K15
namespace K15
open PySem L2 Evl
open PySem.W (alike alikeAll dataLt dataLe keyToks keyToksAll AllAlike Sortable AlikeAll)
def AI.Ok (i : AI) : Prop := i.i.ok ∧ AnsOf i.i.t i.as ∧ i.as.length ≤ 6
/-- one answer alone is told -/
theorem whole_told {t : Tab} {n m : Nat} {as : List Int} (h : TabOk t n m) (ha : AnsOf t as) : toldB (blurT [as] t) n m = true := by
  rw [toldB_iff]
  refine noKnot_one (range_ne h.n1) (range_ne h.m1) ?_
  rw [isOne_iff (range_ne h.n1) (range_ne h.m1)]
  have e : ∀ x ∈ List.range n, ∀ y ∈ List.range m, cell (blurT [as] t) x y = as.headD 0 := fun x hx y hy => by
    have hx := List.mem_range.mp hx
    have hy := List.mem_range.mp hy
    rw [cell_blur h hx hy, headOf_whole]
    obtain ⟨r, hr, hc⟩ := cell_mem h hx hy
    exact (ha.mem _).mpr ⟨r, hr, hc⟩
  intro x hx y hy x' hx' y' hy'
  rw [e x hx y hy, e x' hx' y' hy']
theorem as_ne {t : Tab} {n m : Nat} {as : List Int} (h : TabOk t n m) (ha : AnsOf t as) : as ≠ [] := fun e => by
  obtain ⟨r, hr, hc⟩ := cell_mem h (x := 0) (y := 0) h.n1 h.m1
  have := (ha.mem _).mpr ⟨r, hr, hc⟩
  rw [e] at this
  cases this
/-- the finest lots -/
structure Fine (i : AI) (l : Lots) : Prop where
  mem : l ∈ lawAll i.as
  told : toldB (blurT l i.i.t) i.i.n i.i.m = true
  least : ∀ l' ∈ lawAll i.as, toldB (blurT l' i.i.t) i.i.n i.i.m = true → dataLt (fineD l') (fineD l) = false
section
variable {P : Program} {w : World} {K : PySem.W.Frag} {mg : Str → Option Value} {base : Heap} {f : Addr} {fd : FuncData} {k : Nat}
def spFine (K : PySem.W.Frag) : Sp := spR K 1 AI.Ok (fun i => [tabD i.i.t]) fun i d => ∃ l, d = tabD l ∧ Fine i l
theorem ed_allB {σ : L2.St} {H : Hp} {E : XK} {t : TA} {as : List Int} (h : EdA K t σ H [rowD as]) (ha : Asc as) (h6 : as.length ≤ 6) : Ed K (tCall (spAll K) [] E t) σ H (lotsD (progAll as)) := ed_fn (pre := BI.Ok) (out := fun i : BI => lotsD (progAll i.as)) (⟨as⟩ : BI) h ⟨ha, h6⟩ rfl
theorem qi_ok {i : AI} (ok : i.Ok) {l : Lots} (hl : l ∈ lawAll i.as) : (⟨i.i, i.as, l⟩ : QI).Ok := ⟨ok.1, ok.2.1, ok.2.2, lawAll_ok _ ok.2.1.asc l hl⟩
theorem blur_ti {i : AI} (ok : i.Ok) {l : Lots} (hl : l ∈ lawAll i.as) : (⟨blurT l i.i.t, i.i.n, i.i.m⟩ : TI).ok := blur_ok ok.1 ok.2.1 (lawAll_ok _ ok.2.1.asc l hl)
theorem ok_finest_blur (F : Fun K "finest_blur" "finest_blur" (top 30) f fd) (B : Bi mg) (C : Co mg) (G1 : Fn P w K mg base k "answers_in" ["table"] (spAns K)) (G2 : Fn P w K mg base k "all_blurs" ["answers"] (spAll K)) (G3 : Fn P w K mg base k "blurred_by" ["table", "lots"] (spBlur K)) (G4 : Fn P w K mg base k "is_told" ["table"] (spTold K)) : FnOk P w K mg base CX0 (k + 1) f fd ["table"] (spFine K) := by
  refine F.ok sc_finest_blur (fun vs H Q E h => h.elim fun _ q => q.1) (fun cdv A outer s H vs Q E hr h => ?_)
  obtain ⟨i, _, ok, hd, q⟩ := h
  obtain ⟨vt, rfl, ht⟩ := dps_1 hd
  refine ⟨_, d_finest_blur B C _ _ _ _ G1 G2 G3 G4 hr, ?_⟩
  obtain ⟨tok, han, six⟩ := id ok
  refine dq_asg (d := rowD i.as) (ed_fn (pre := fun i : AI => i.i.ok ∧ AnsOf i.i.t i.as) (out := fun i : AI => rowD i.as) i (ea1 (ed_var rfl ht)) ⟨tok, han⟩ rfl) fun va H1 e1 hva => ?_
  have ht1 := dp_ex e1 _ _ ht
  refine q_when (b := false) (et_testd (K := K) ((ed_I0 (i := (i.as.length : Nat)) (j := 8) (d := .bool false) ((ed_lenT (ed_var rfl hva)).is (by rw [List.length_map])) ed_int fun H1 => by rw [decide_eq_false (by omega)]; exact .bl _))) (fun c => absurd c (by decide)) fun _ H2 e2 => ?_
  have ht2 := dp_ex e2 _ _ ht1
  have hva2 := dp_ex e2 _ _ hva
  obtain ⟨z0, _, _⟩ := found_ok han.asc six i.as.length
  rw [List.take_length] at z0
  have hp := all_perm i.as
  have sp := sortF_perm (progAll i.as)
  have sm : ∀ l, l ∈ sortF (progAll i.as) ↔ l ∈ lawAll i.as := fun l => (sp.mem_iff).trans hp.mem_iff
  refine dq_forLp (A := sortF (progAll i.as)) (e1 := fun l => .int (0 - (l.length : Int))) (e2 := tabD) ((ed_sortD false (ds := (progAll i.as).map fineD) ((ed_lcL (A := progAll i.as) (enc := tabD) (p := fun _ => true) (f := fineD) (ed_allB (ea1 (ed_var rfl hva2)) han.asc six) (fun _ => rfl) (by omega) (fun _ _ => noL_fine _) (fun _ _ _ _ _ _ => et_yes) fun l hl _ u H3 e3 hu => ?_).is ?_) (noLs_map fun _ _ => noL_fine _) (AllAlike.of alike_fine) (.inl fun d hd => ?_) (by rw [List.length_map]; omega) fun d hd => ?_).is ?_)
    (fun H3 m σ' H' => ∃ (y2 y3 : Option V), σ' = [some vt, some va, y2, y3] ∧ Ex H3 H' ∧ ∀ l ∈ (sortF (progAll i.as)).take m, toldB (blurT l i.i.t) i.i.n i.i.m = false)
    (fun H3 e3 => ⟨none, none, rfl, Ex.refl _, fun a ha => by simp at ha⟩) (fun H3 m σ' H' _ hp => ?_) (fun m l v u σ' H3 H' e3 hl hv hu hpv => ?_) fun H3 σ' H' e3 hpv => ?_
  · refine ed_tup (ea2 (ed_I0 (i := 0) (j := (l.length : Nat)) ed_int ((ed_lenT (ed_var rfl hu)).is (by rw [List.length_map])) fun _ => .int _) (ed_var rfl hu)) (Nat.le_of_ble_eq_true rfl)
  · rw [filter_yes]
    rfl
  · obtain ⟨l, hl, rfl⟩ := List.mem_map.mp hd
    exact ⟨_, _, rfl⟩
  · obtain ⟨l, hl, rfl⟩ := List.mem_map.mp hd
    have := depth_fine l
    omega
  · rw [sort_map]
    rfl
  · obtain ⟨_, _, _, ex, _⟩ := hp
    exact ex
  · obtain ⟨y2, y3, rfl, ex, hf⟩ := hpv
    have hlS : l ∈ sortF (progAll i.as) := List.mem_of_getElem? hl
    have hlm := (sm l).mp hlS
    have eA := e3.trans ex
    refine s_when (et_Bd (ed_fn (pre := TI.ok) (out := fun i : TI => .bool (toldB i.t i.n i.m)) (⟨blurT l i.i.t, i.i.n, i.i.m⟩ : TI) (ea1 (ed_fn (pre := QI.Ok) (out := fun i : QI => tabD (blurT i.l i.i.t)) (⟨i.i, i.as, l⟩ : QI) (ea2 (ed_var rfl (dp_ex eA _ _ ht2)) (ed_var rfl hu)) (qi_ok ok hlm) rfl)) (blur_ti ok hlm) rfl)) (fun c H4 e4 => ?_) fun c H4 e4 => ?_
    · refine d_ret (ed_var rfl (dp_ex e4 _ _ hu)) fun v5 H5 e5 hv5 => q _ v5 H5 (e1.trans (e2.trans (eA.trans (e4.trans e5)))) ⟨l, rfl, hlm, c, fun l' hl' ht' => ?_⟩ hv5
      have hS' := (sm l').mpr hl'
      have hsplit : sortF (progAll i.as) = (sortF (progAll i.as)).take m ++ l :: (sortF (progAll i.as)).drop (m + 1) := by
        obtain ⟨hm, rfl⟩ := List.getElem?_eq_some_iff.mp hl
        rw [← List.drop_eq_getElem_cons hm, List.take_append_drop]
      have srt := sortF_sorted (progAll i.as)
      rw [hsplit] at hS' srt
      rcases List.mem_append.mp hS' with z | z
      · rw [hf l' z] at ht'
        cases ht'
      · (rcases List.mem_cons.mp z with z | z)
        · rw [z]
          exact lt_self _
        · exact (List.pairwise_cons.mp (List.pairwise_append.mp srt).2.1).1 l' z
    · refine ⟨_, _, rfl, ex.trans e4, fun l' hl' => ?_⟩
      rw [take_snoc hl, List.mem_append, List.mem_singleton] at hl'
      rcases hl' with z | z
      · exact hf l' z
      · rw [z]
        exact c
  · obtain ⟨y2, y3, rfl, ex, hf⟩ := hpv
    rw [List.take_length] at hf
    have hw := hf [i.as] ((sm _).mpr (whole_in _ (as_ne tok han)))
    rw [whole_told tok han] at hw
    cases hw
end
end K15
namespace K15
open PySem L2 Evl
open PySem.W (alike alikeAll dataLt dataLe keyToks keyToksAll AllAlike Sortable AlikeAll)
theorem nats_row (l : List Nat) : natsD l = rowD (l.map fun x => ((x : Nat) : Int)) := by
  rw [natsD, rowD, List.map_map]
  rfl
theorem nat_list (l : List Nat) : l.map natD = (l.map fun x => ((x : Nat) : Int)).map .int := by
  rw [List.map_map]
  rfl
theorem shaped_lnats (l : List Nat) : SeqAt.shaped (.list (l.map natD)) = true := by
  rw [nat_list]
  exact shaped_lints _
theorem shaped_llots (L : List (List Nat)) : SeqAt.shaped (.list (L.map natsD)) = true := by
  have e : L.map natsD = (L.map fun l => l.map fun x => ((x : Nat) : Int)).map rowD := by
    rw [List.map_map]
    exact List.map_congr_left fun l _ => nats_row l
  rw [e]
  exact shaped_lrows _
theorem shaped_lnil : SeqAt.shaped (.list []) = true := shaped_lints []
theorem eqv_nil (ds : List PyData) : PyData.eqv (.list ds) (.list []) = ds.isEmpty := by
  rw [PyData.eqv]
  cases ds <;> simp [PyData.eqvAll]
theorem empty_filter {α : Type} (p : α → Bool) : ∀ l : List α, (l.filter p).isEmpty = l.all fun x => !p x
  | [] => rfl
  | a :: l => by
    rw [List.filter_cons, List.all_cons, ← empty_filter p l]
    cases p a <;> simp
section
variable {K : PySem.W.Frag} {σ : L2.St} {H : Hp} {ta tb tc te tl tk tv : TE} {tt : TT} {d d1 d2 : PyData} {ds : List PyData} {D : Ends} {tu tz : L2.TS} {t : TA}
theorem ed_isNil (h : Ed K ta σ H (.list ds)) (hs : SeqAt.shaped (.list ds) = true) : Ed K (tOp (rEqD K) ta (tLst tNil)) σ H (.bool ds.isEmpty) :=
  (ed_eqD h (ed_lst ea_nilD (Nat.le_of_ble_eq_true rfl)) hs shaped_lnil).is (by rw [eqv_nil])
theorem ed_notNil (h : Ed K ta σ H (.list ds)) (hs : SeqAt.shaped (.list ds) = true) : Ed K (tOp (rNeD K) ta (tLst tNil)) σ H (.bool (!ds.isEmpty)) :=
  (ed_neD h (ed_lst ea_nilD (Nat.le_of_ble_eq_true rfl)) hs shaped_lnil).is (by rw [eqv_nil])
theorem in_nats (x : Nat) (l : List Nat) : inV (.int (x : Nat)) (l.map fun i => V.int (i : Nat)) = decide (x ∈ l) := by
  unfold inV
  (rw [Bool.eq_iff_iff, List.any_eq_true, decide_eq_true_eq])
  constructor
  · rintro ⟨y, hy, e⟩
    obtain ⟨z, hz, rfl⟩ := List.mem_map.mp hy
    have e' : decide (((z : Nat) : Int) = ((x : Nat) : Int)) = true := e
    have := of_decide_eq_true e'
    have : z = x := by omega
    rw [← this]
    exact hz
  · intro h
    exact ⟨_, List.mem_map.mpr ⟨x, h, rfl⟩, by show decide (((x : Nat) : Int) = ((x : Nat) : Int)) = true; exact decide_eq_true rfl⟩
theorem dps_nat {H : Hp} {vs : List V} {l : List Nat} (h : DpAll K H vs (l.map natD)) : vs = l.map fun i => V.int (i : Nat) := by
  rw [nat_list] at h
  rw [dps_ints h, List.map_map]
  rfl
theorem ed_notIn {x : Nat} {l : List Nat} (ha : Ed K ta σ H (natD x)) (hb : Ed K tb σ H (.list (l.map natD))) : Ed K (tOp (rIn K true) ta tb) σ H (.bool (!decide (x ∈ l))) := ed_op ha hb fun u v H1 _ hu hv Q q => by
  have eu := dp_int hu
  subst eu
  obtain ⟨a, xs, rfl, hs, hd⟩ := dp_lst hv
  have ex := dps_nat hd
  subst ex
  refine ⟨a, _, rfl, .inl hs, rfl, ?_, ?_⟩
  · rw [List.all_eq_true]
    intro y hy
    obtain ⟨z, _, rfl⟩ := List.mem_map.mp hy
    rfl
  · rw [if_pos rfl, in_nats]
    exact q _ H1 (Ex.refl H1) (.bl _)
/-- for i in range(n) -/
theorem d_forR {j n : Nat} (h : EdA K t σ H [.int (n : Nat)]) (hn : n ≤ 100000) (Pv : Hp → Nat → L2.St → Hp → Prop) (h0 : ∀ H1, Ex H H1 → Pv H1 0 σ H1)
    (hs : ∀ (i : Nat) σ' H1 H', Ex H H1 → i < n → Pv H1 i σ' H' → tu { D with nx := Pv H1 (i + 1), ct := Pv H1 (i + 1), bk := D.nx } (σ'.set j (some (.int (i : Nat)))) H') (hd : ∀ H1 σ' H', Ex H H1 → Pv H1 n σ' H' → D.nx σ' H') :
    tFor (iRng1 t) (gName j) tu D σ H := h H (Ex.refl H) _ fun vs H1 e hv => by
  obtain ⟨w, rfl, hw'⟩ := dps_1 hv
  have e0 := dp_int hw'
  subst e0
  refine ⟨(n : Nat), rfl, by omega, by omega, for_range (lo := 0) (n := (n : Int).toNat) (Pv H1) (h0 H1 e) (fun i σ' H' hi p => ?_) fun σ' H' p => hd H1 σ' H' e p⟩
  (have e0 : (0 : Int) + (i : Int) = (i : Int) := Int.zero_add _)
  show tu { D with nx := Pv H1 (i + 1), ct := Pv H1 (i + 1), bk := D.nx } (σ'.set j (some (.int ((0 : Int) + (i : Int))))) H'
  rw [e0]
  exact hs i σ' H1 H' e (by simpa using hi) p
theorem dq_forR {j n : Nat} (h : EdA K t σ H [.int (n : Nat)]) (hn : n ≤ 100000) (Pv : Hp → Nat → L2.St → Hp → Prop) (h0 : ∀ H1, Ex H H1 → Pv H1 0 σ H1)
    (hs : ∀ (i : Nat) σ' H1 H', Ex H H1 → i < n → Pv H1 i σ' H' → tu { D with nx := Pv H1 (i + 1), ct := Pv H1 (i + 1), bk := tz D } (σ'.set j (some (.int (i : Nat)))) H') (hd : ∀ H1 σ' H', Ex H H1 → Pv H1 n σ' H' → tz D σ' H') :
    tSeq (tFor (iRng1 t) (gName j) tu) tz D σ H := d_forR (D := { D with nx := tz D }) h hn Pv h0 hs hd
end
section
variable {P : Program} {w : World} {K : PySem.W.Frag} {mg : Str → Option Value} {base : Heap} {f : Addr} {fd : FuncData} {k : Nat}
/-! ### _law_whole, _law_turned -/
theorem ok__law_whole (F : Fun K "_law_whole" "_law_whole" (top 37) f fd) (B : Bi mg) (C : Co mg) : FnOk P w K mg base CX0 (k + 1) f fd ["_law_table_here"] (spWhole K) := by
  refine F.ok sc__law_whole (fun vs H Q E h => h.elim fun _ q => q.1) (fun cdv A outer s H vs Q E hr h => ?_)
  obtain ⟨i, _, ok, hd, q⟩ := h
  obtain ⟨v, rfl, hv⟩ := dps_1 hd
  refine ⟨_, d__law_whole B C hr, ?_⟩
  have h0 : Ed K (tVar 0) (start ["_law_table_here"] [v]) H (tabD i.t) := ed_var rfl hv
  have n6 := ok.n6
  have m6 := ok.m6
  exact d_ret (ed_tup (ea2 (ed_tupRg (ed_rows ok h0) (by omega)) (ed_tupRg (ed_cols ok h0) (by omega))) (Nat.le_of_ble_eq_true rfl)) fun v H1 e hv => q v H1 e hv
theorem ok__law_turned (F : Fun K "_law_turned" "_law_turned" (top 36) f fd) (B : Bi mg) (C : Co mg) : FnOk P w K mg base CX0 (k + 1) f fd ["_law_table_here"] (spTurned K) := by
  refine F.ok sc__law_turned (fun vs H Q E h => h.elim fun _ q => q.1) (fun cdv A outer s H vs Q E hr h => ?_)
  obtain ⟨i, _, ok, hd, q⟩ := h
  obtain ⟨v, rfl, hv⟩ := dps_1 hd
  refine ⟨_, d__law_turned B C hr, ?_⟩
  exact d_ret (turned_ed ok hv rfl (fun _ => rfl) (fun _ => rfl) (fun _ _ => rfl) (fun _ _ => rfl) (fun _ _ => rfl)) fun v H1 e hv => q v H1 e hv
/-! ### _law_one, _law_meets -/
theorem ok__law_one (F : Fun K "_law_one" "_law_one" (top 39) f fd) (B : Bi mg) (C : Co mg) : FnOk P w K mg base CX0 (k + 1) f fd ["_law_table_here", "_law_rows", "_law_columns"] (spOne K) := by
  refine F.ok sc__law_one (fun vs H Q E h => h.elim fun _ q => q.1) (fun cdv A outer s H vs Q E hr h => ?_)
  obtain ⟨i, _, ok, hd, q⟩ := h
  obtain ⟨vt, vr, vc, rfl, ht, hrr, hc⟩ := dps_3 hd
  refine ⟨_, d__law_one B C hr, ?_⟩
  refine dq_asg (ed_cell ok.tab (ok.r _ (head_in ok.rne)) (ok.c _ (head_in ok.cne)) (ed_var rfl ht) (ed_drop0 ok.rne (ed_var rfl hrr)) (ed_drop0 ok.cne (ed_var rfl hc))) fun vf H1 e1 hf => ?_
  have ht1 := dp_ex e1 _ _ ht
  have hr1 := dp_ex e1 _ _ hrr
  have hc1 := dp_ex e1 _ _ hc
  have r6 := ok.r6
  have c6 := ok.c6
  refine d_ret ((ed_isNil (ed_lcT (A := i.R) (enc := natD) (p := fun x => !((i.C.filter fun y => !(cell i.i.t x y == cell i.i.t (i.R.headD 0) (i.C.headD 0))).map natD).isEmpty) (f := natD) (ed_var rfl hr1) (fun _ => rfl) (by omega) (fun _ _ => rfl) (fun x hx v H2 e2 hv => ?_) fun x hx _ v H2 e2 hv => ed_var rfl hv) (shaped_lnats _)).is ?_) fun v H2 e2 hv => q v H2 (e1.trans e2) hv
  · refine et_testd (K := K) (ed_notNil ((ed_lcT (A := i.C) (enc := natD) (p := fun y => !(cell i.i.t x y == cell i.i.t (i.R.headD 0) (i.C.headD 0))) (f := natD) (ed_var rfl (dp_ex e2 _ _ hc1)) (fun _ => rfl) (by omega) (fun _ _ => rfl) (fun y hy u H3 e3 hu => ?_) fun y hy _ u H3 e3 hu => ed_var rfl hu)) (shaped_lnats _))
    exact et_testd (K := K) (ed_neI (ed_cell ok.tab (ok.r x hx) (ok.c y hy) (ed_var rfl (dp_ex (e2.trans e3) _ _ ht1)) (ed_var rfl (dp_ex e3 _ _ hv)) (ed_var rfl hu)) (ed_var rfl (dp_ex (e2.trans e3) _ _ hf)))
  · refine congrArg PyData.bool ?_
    rw [List.isEmpty_map, empty_filter]
    unfold isOne
    simp only [List.isEmpty_map, empty_filter, Bool.not_not]
theorem ok__law_meets (F : Fun K "_law_meets" "_law_meets" (top 44) f fd) (B : Bi mg) (C : Co mg) : FnOk P w K mg base CX0 (k + 1) f fd ["_law_table_here", "_law_one_here", "_law_other", "_law_columns"] (spNear K) := by
  refine F.ok sc__law_meets (fun vs H Q E h => h.elim fun _ q => q.1) (fun cdv A outer s H vs Q E hr h => ?_)
  obtain ⟨i, _, ⟨ok, ha, hb, hC, hC6⟩, hd, q⟩ := h
  obtain ⟨vt, va, vb, vc, rfl, ht, hva, hvb, hc⟩ := dps_4 hd
  refine ⟨_, d__law_meets B C hr, ?_⟩
  refine d_ret ((ed_notNil (ed_lcT (A := i.C) (enc := natD) (p := fun y => cell i.i.t i.a y == cell i.i.t i.b y) (f := natD) (ed_var rfl hc) (fun _ => rfl) (by omega) (fun _ _ => rfl) (fun y hy w H2 e2 hw => ?_) fun y hy _ w H2 e2 hw => ed_var rfl hw) (shaped_lnats _)).is ?_) fun v H4 e4 hv => q v H4 e4 hv
  · exact et_testd (K := K) (ed_eqI (ed_cell ok ha (hC y hy) (ed_var rfl (dp_ex e2 _ _ ht)) (ed_var rfl (dp_ex e2 _ _ hva)) (ed_var rfl hw)) (ed_cell ok hb (hC y hy) (ed_var rfl (dp_ex e2 _ _ ht)) (ed_var rfl (dp_ex e2 _ _ hvb)) (ed_var rfl hw)))
  · refine congrArg PyData.bool ?_
    rw [List.isEmpty_map, empty_filter, ← List.not_any_eq_all_not, Bool.not_not]
    rfl
end
end K15
namespace K15
open PySem L2 Evl
open PySem.W (alike alikeAll dataLt dataLe keyToks keyToksAll AllAlike Sortable AlikeAll)
def sortI (l : List Int) : List Int := l.mergeSort fun a b => decide (a ≤ b)
theorem sortI_perm (l : List Int) : (sortI l).Perm l := List.mergeSort_perm _ _
theorem sortI_sorted (l : List Int) : (sortI l).Pairwise (· ≤ ·) := by
  have q := List.pairwise_mergeSort (le := fun a b : Int => decide (a ≤ b)) (fun a b c h1 h2 => by
    rw [decide_eq_true_eq] at *
    omega) (fun a b => by
    (rw [Bool.or_eq_true, decide_eq_true_eq, decide_eq_true_eq])
    omega) l
  exact q.imp fun h => by simpa using h
theorem sortI_one {l xs : List Int} (hp : xs.Perm l) (hs : xs.Pairwise (· ≤ ·)) : xs = sortI l :=
  List.Perm.eq_of_pairwise (le := fun a b : Int => a ≤ b) (fun a b _ _ h1 h2 => by omega) hs (sortI_sorted l) (hp.trans (sortI_perm l).symm)
def castL (l : List Nat) : List Int := l.map fun x => ((x : Nat) : Int)
def sortN (l : List Nat) : List Nat := l.mergeSort fun a b => decide (a ≤ b)
theorem sortN_perm (l : List Nat) : (sortN l).Perm l := List.mergeSort_perm _ _
theorem sortN_one {l : List Nat} {xs : List Int} (hp : xs.Perm (castL l)) (hs : xs.Pairwise (· ≤ ·)) : xs = castL (sortN l) := by
  have q := List.pairwise_mergeSort (le := fun a b : Nat => decide (a ≤ b)) (fun a b c h1 h2 => by
    rw [decide_eq_true_eq] at *
    omega) (fun a b => by
    (rw [Bool.or_eq_true, decide_eq_true_eq, decide_eq_true_eq])
    omega) l
  have q2 : (castL (sortN l)).Pairwise (· ≤ ·) := by
    refine List.pairwise_map.mpr (q.imp fun h => ?_)
    have := of_decide_eq_true h
    omega
  exact List.Perm.eq_of_pairwise (le := fun a b : Int => a ≤ b) (fun a b _ _ h1 h2 => by omega) hs q2 (hp.trans ((sortN_perm l).map _).symm)
section
variable {K : PySem.W.Frag} {σ : L2.St} {H : Hp} {ta tb tc te tl tk tv : TE} {tt : TT} {d d1 d2 : PyData} {ds : List PyData} {D : Ends} {tu tz : L2.TS} {t : TA}
theorem dq_par {i j : Nat} (h : EdA K t σ H [d1, d2]) (k : ∀ x y H1, Ex H H1 → Dp K H1 x d1 → Dp K H1 y d2 → tz D ((σ.set i (some x)).set j (some y)) H1) : tSeq (tPar i j t) tz D σ H := h H (Ex.refl H) _ fun vs H1 e hv => by
  obtain ⟨v, w, rfl, h1, h2⟩ := dps_2 hv
  exact ⟨v, w, rfl, k v w H1 e h1 h2⟩
theorem ed_sortN {l : List Nat} (h : Ed K ta σ H (.list (l.map natD))) (hz : l.length < 64) : Ed K (tCB (rTupS K) (tCons (tCB (rSorted K) (tCons ta tNil)) tNil)) σ H (natsD (sortN l)) := by
  rw [nat_list] at h
  refine (ed_tupleL (ed_sorted h (by rw [List.length_map]; exact hz) fun xs hp hs => sortN_one hp hs)).is ?_
  rw [nats_row]
  rfl
theorem cut_one (l : List Nat) : cutD (l.map natD) none (some ((1 : Nat) : Int)) = (l.take 1).map natD := by
  cases l with
  | nil => rfl
  | cons a r =>
    rw [cutD_to (by rw [List.length_map, List.length_cons]; omega), List.map_take]
end
section
variable {P : Program} {w : World} {K : PySem.W.Frag} {mg : Str → Option Value} {base : Heap} {f : Addr} {fd : FuncData} {k : Nat}
def spLLots (K : PySem.W.Frag) : Sp := spR K 3 Pt.Ok Pt.args fun p d => ∃ L, d = .list (L.map natsD) ∧ Part (near (cell p.i.t) p.C) p.R L
theorem ok__law_lots (F : Fun K "_law_lots" "_law_lots" (top 38) f fd) (B : Bi mg) (C : Co mg) (G : Fn P w K mg base k "_law_meets" ["_law_table_here", "_law_one_here", "_law_other", "_law_columns"] (spNear K)) : FnOk P w K mg base CX0 (k + 1) f fd ["_law_table_here", "_law_rows", "_law_columns"] (spLLots K) := by
  refine F.ok sc__law_lots (fun vs H Q E h => h.elim fun _ q => q.1) (fun cdv A outer s H vs Q E hr h => ?_)
  obtain ⟨i, _, ok, hd, q⟩ := h
  obtain ⟨vt, vr, vc, rfl, ht, hrr, hc⟩ := dps_3 hd
  refine ⟨_, d__law_lots B C _ G hr, ?_⟩
  have r6 := ok.r6
  have c6 := ok.c6
  have nsym := near_symm (cell i.i.t) i.C
  refine dq_par (d1 := .list []) (d2 := .list (i.R.map natD)) (ea2 (ed_lst ea_nilD (Nat.le_of_ble_eq_true rfl)) (ed_listT (ed_var rfl hrr))) fun vF0 vL0 H1 e1 hF0 hL0 => ?_
  have ht1 := dp_ex e1 _ _ ht
  have hr1 := dp_ex e1 _ _ hrr
  have hc1 := dp_ex e1 _ _ hc
  refine dq_forR (n := i.R.length) (ea1 ((ed_lenT (ed_var rfl hr1)).is (by rw [List.length_map]))) (by omega) (fun H2 j σ' H' => ∃ (vF vL : V) (y3 y6 y7 y8 : Option V) (left : List Nat) (L : List (List Nat)), σ' = [some vt, some vr, some vc, y3, some vF, some vL, y6, y7, y8, none, none] ∧ Ex H2 H' ∧ Dp K H' vF (.list (L.map natsD)) ∧ Dp K H' vL (.list (left.map natD)) ∧ Turned (near (cell i.i.t) i.C) i.R j left L)
    (fun H2 e2 => ⟨vF0, vL0, none, none, none, none, i.R, [], rfl, Ex.refl _, dp_ex e2 _ _ hF0, dp_ex e2 _ _ hL0, turned_start ok.rnd⟩) (fun j σ' H2 H' e2 hj hp => ?_) fun H2 σ' H' e2 hp => ?_
  · clear hF0 hL0
    obtain ⟨vF, vL, y3, y6, y7, y8, left, L, rfl, ex, hF, hL, T⟩ := hp
    have lt6 : left.length ≤ 6 := Nat.le_trans (nodup_len_le T.nd T.sub) r6
    have lL : L.length ≤ 6 := Nat.le_trans T.count (by omega)
    have eA := e2.trans ex
    refine dq_asg (d := .list ((left.take 1).map natD)) ((ed_slL (ed_var rfl hL) eo_none (eo_some (i := ((1 : Nat) : Int)) (ev_c (v := .int ((1 : Nat) : Int))))).is (by rw [cut_one])) fun vl0 H3 e3 hl0 => ?_
    refine dq_forR (n := left.length) (ea1 ((ed_lenL (ed_var rfl (dp_ex e3 _ _ hL))).is (by rw [List.length_map]))) (by omega) (fun H4 s σ' H' => ∃ (vl : V) (y7 y8 : Option V) (lot : List Nat), σ' = [some vt, some vr, some vc, some (.int (j : Nat)), some vF, some vL, some vl, y7, y8, none, none] ∧ Ex H4 H' ∧ Dp K H' vl (.list (lot.map natD)) ∧ Grown (near (cell i.i.t) i.C) left s lot)
      (fun H4 e4 => ⟨vl0, y7, y8, left.take 1, rfl, Ex.refl _, dp_ex e4 _ _ hl0, grown_start⟩) (fun s σ' H4 H' e4 hs hp => ?_) fun H4 σ' H' e4 hp => ?_
    · clear hl0
      obtain ⟨vl, y7, y8, lot, rfl, ex4, hl, g⟩ := hp
      have lo6 : lot.length ≤ 6 := Nat.le_trans (nodup_len_le g.nd g.sub) lt6
      have eB := (e3.trans e4).trans ex4
      refine dq_asg (d := .list ((left.filter fun x => !decide (x ∈ lot) && lot.any fun z => near (cell i.i.t) i.C x z).map natD)) (ed_lcL (A := left) (enc := natD) (f := natD) (ed_var rfl (dp_ex eB _ _ hL)) (fun _ => rfl) (by omega) (fun _ _ => rfl) (fun x hx v H5 e5 hv => ?_) fun x hx _ v H5 e5 hv => ed_var rfl hv) fun vn H5 e5 hn => ?_
      · refine et_and (et_testd (K := K) (ed_notIn (ed_var rfl hv) (ed_var rfl (dp_ex e5 _ _ hl)))) fun _ => et_testd (K := K) ((ed_notNil (ed_lcL (A := lot) (enc := natD) (p := fun z => near (cell i.i.t) i.C x z) (f := natD) (ed_var rfl (dp_ex e5 _ _ hl)) (fun _ => rfl) (by omega) (fun _ _ => rfl) (fun z hz u H6 e6 hu => ?_) fun z hz _ u H6 e6 hu => ed_var rfl hu) (shaped_lnats _)).is ?_)
        · have eC := (eA.trans eB).trans (e5.trans e6)
          exact et_Bd (ed_near (i := ⟨i.i, x, z, i.C⟩) (ea_consD (ed_var rfl (dp_ex eC _ _ ht1)) (ea_consD (ed_var rfl (dp_ex e6 _ _ hv)) (ea2 (ed_var rfl hu) (ed_var rfl (dp_ex eC _ _ hc1))))) ⟨ok.tab, ok.r x (T.sub x hx), ok.r z (T.sub z (g.sub z hz)), ok.c, c6⟩)
        · rw [List.isEmpty_map, empty_filter, ← List.not_any_eq_all_not, Bool.not_not]
      · have hlf := List.length_filter_le (fun x => !decide (x ∈ lot) && lot.any fun z => near (cell i.i.t) i.C x z) left
        refine d_asg (d := .list ((grow (near (cell i.i.t) i.C) left lot).map natD)) ((ed_catL (ed_var rfl (dp_ex e5 _ _ hl)) (ed_var rfl hn) (by rw [List.length_map, List.length_map]; omega)).is (by rw [← List.map_append]; rfl)) fun vg H6 e6 hg => ⟨vg, _, _, _, rfl, (ex4.trans e5).trans e6, hg, grown_step nsym T.nd g⟩
    · clear hl0
      obtain ⟨vl, y7, y8, lot, rfl, ex4, hl, g⟩ := hp
      have lo6 : lot.length ≤ 6 := Nat.le_trans (nodup_len_le g.nd g.sub) lt6
      have eB := (e3.trans e4).trans ex4
      refine dq_asg (d := .list ((left.filter fun x => !decide (x ∈ lot)).map natD)) (ed_lcL (A := left) (enc := natD) (f := natD) (ed_var rfl (dp_ex eB _ _ hL)) (fun _ => rfl) (by omega) (fun _ _ => rfl) (fun x hx v H5 e5 hv => et_testd (K := K) (ed_notIn (ed_var rfl hv) (ed_var rfl (dp_ex e5 _ _ hl)))) fun x hx _ v H5 e5 hv => ed_var rfl hv) fun vn H5 e5 hn => ?_
      refine d_asg (d := .list ((L ++ if lot ≠ [] then [sortN lot] else []).map natsD)) ((ed_catL (ds := L.map natsD) (es := (if lot ≠ [] then [sortN lot] else []).map natsD) (ed_var rfl (dp_ex (eB.trans e5) _ _ hF)) (ed_if (b := !lot.isEmpty) (et_testd (K := K) ((ed_notNil (ed_var rfl (dp_ex e5 _ _ hl)) (shaped_lnats _)).is (by rw [List.isEmpty_map]))) (fun c => ?_) fun c => ?_) ?_).is (by rw [← List.map_append])) fun vF2 H6 e6 hF2 => ⟨vF2, vn, _, _, _, _, _, _, rfl, ((ex.trans eB).trans e5).trans e6, hF2, dp_ex e6 _ _ hn, turned_step nsym T g (sortN_perm lot)⟩
      · have hne : lot ≠ [] := fun z => by
          rw [z] at c
          cases c
        rw [if_pos hne]
        exact ed_lst (ea1 (ed_sortN (ed_var rfl (dp_ex e5 _ _ hl)) (by omega))) (Nat.le_of_ble_eq_true rfl)
      · have hne : ¬ lot ≠ [] := fun z => by
          cases lot with
          | nil => exact z rfl
          | cons a r => cases c
        rw [if_neg hne]
        exact ed_lst ea_nilD (Nat.le_of_ble_eq_true rfl)
      · rw [List.length_map, List.length_map]
        split
        · rw [List.length_singleton]
          omega
        · rw [List.length_nil]
          omega
  · clear hF0 hL0
    obtain ⟨vF, vL, y3, y6, y7, y8, left, L, rfl, ex, hF, hL, T⟩ := hp
    exact d_ret (ed_var rfl hF) fun v H3 e3 hv => q _ v H3 (e1.trans (e2.trans (ex.trans e3))) ⟨L, rfl, turned_part T⟩ hv
/-! ### _law_told -/
open Classical in
noncomputable def nkB (p : Pt) : Bool := decide (NoKnot (cell p.i.t) p.R p.C)
theorem nkB_iff {p : Pt} : nkB p = true ↔ NoKnot (cell p.i.t) p.R p.C := by
  unfold nkB
  exact @decide_eq_true_iff _ (Classical.propDecidable _)
noncomputable def spLTold (K : PySem.W.Frag) (N : Nat) : Sp := sp1 K 3 (fun p => p.Ok ∧ p.R.length + p.C.length ≤ N) Pt.args fun p => .bool (nkB p)
theorem ltold_0 : FnOk P w K mg base CX0 0 f fd ["_law_table_here", "_law_rows", "_law_columns"] (spLTold K 0) := by
  have no : ∀ vs H Q E, ¬ spLTold K 0 vs H Q E := fun vs H Q E h => by
    obtain ⟨p, _, ⟨ok, h1⟩, _⟩ := h
    have := List.length_pos_iff.mpr ok.rne
    omega
  (exact ⟨fun vs H Q E h => absurd h (no vs H Q E), fun A outer s H args us vs Q E _ _ _ _ h => absurd h (no vs H Q E)⟩)
theorem nk_all {p : Pt} {L : List (List Nat)} {g : List Nat → Pt} (h : NoKnot (cell p.i.t) p.R p.C ↔ ∀ l ∈ L, NoKnot (cell (g l).i.t) (g l).R (g l).C) : (L.filter fun l => !nkB (g l)).isEmpty = nkB p := by
  rw [empty_filter, Bool.eq_iff_iff, List.all_eq_true, nkB_iff, h]
  refine forall_congr' fun l => imp_congr_right fun _ => ?_
  rw [Bool.not_not, nkB_iff]
theorem ed_nk {N : Nat} {σ : L2.St} {H : Hp} {E : XK} {t : TA} {p : Pt} (h : EdA K t σ H p.args) (ok : p.Ok) (hN : p.R.length + p.C.length ≤ N) : Ed K (tCall (spLTold K N) [] E t) σ H (.bool (nkB p)) :=
  ed_fn (pre := fun p : Pt => p.Ok ∧ p.R.length + p.C.length ≤ N) (out := fun p : Pt => .bool (nkB p)) p h ⟨ok, hN⟩ rfl
theorem ok__law_told {N : Nat} (F : Fun K "_law_told" "_law_told" (top 40) f fd) (B : Bi mg) (C : Co mg) (G1 : Fn P w K mg base k "_law_one" ["_law_table_here", "_law_rows", "_law_columns"] (spOne K)) (G2 : Fn P w K mg base k "_law_turned" ["_law_table_here"] (spTurned K)) (G3 : Fn P w K mg base k "_law_lots" ["_law_table_here", "_law_rows", "_law_columns"] (spLLots K)) (G4 : Fn P w K mg base k "_law_told" ["_law_table_here", "_law_rows", "_law_columns"] (spLTold K N)) : FnOk P w K mg base CX0 (k + 1) f fd ["_law_table_here", "_law_rows", "_law_columns"] (spLTold K (N + 1)) := by
  refine F.ok sc__law_told (fun vs H Q E h => h.elim fun _ q => q.1) (fun cdv A outer s H vs Q E hr h => ?_)
  obtain ⟨i, _, ⟨ok, hN⟩, hd, q⟩ := h
  obtain ⟨vt, vr, vc, rfl, ht, hrr, hc⟩ := dps_3 hd
  refine ⟨_, d__law_told B C _ _ _ _ G1 G2 G3 G4 hr, ?_⟩
  have r6 := ok.r6
  have c6 := ok.c6
  refine q_when (et_Bd (ed_fn (pre := Pt.Ok) i (ea_consD (ed_var rfl ht) (ea2 (ed_var rfl hrr) (ed_var rfl hc))) ok rfl)) (fun c H1 e1 => ?_) fun c H1 e1 => ?_
  · refine d_ret ((ed_bl (n := true)).is ?_) fun v H2 e2 hv => q v H2 (e1.trans e2) hv
    exact congrArg PyData.bool (nkB_iff.mpr (noKnot_one ok.rne ok.cne c)).symm
  have ht1 := dp_ex e1 _ _ ht
  have hr1 := dp_ex e1 _ _ hrr
  have hc1 := dp_ex e1 _ _ hc
  refine dq_fnR (⟨⟨turnT i.i.t i.i.m, i.i.m, i.i.n⟩, i.C, i.R⟩ : Pt) (ea_consD (ed_fn (pre := TI.ok) i.i (ea1 (ed_var rfl ht1)) ok.tab rfl) (ea2 (ed_var rfl hc1) (ed_var rfl hr1))) ok.turn rfl fun d v H2 e2 hp hv => ?_
  obtain ⟨M, rfl, hM'⟩ := hp
  have hM := hM'.congr (near_turn ok)
  have mf := hM.few
  refine q_when (b := decide (1 < M.length)) ((et_testd (K := K) ((ed_I0 (i := ((M.map natsD).length : Nat)) (j := 1) (d := .bool (decide (1 < M.length))) (ed_lenL (ed_var rfl hv)) ed_int fun H1 => by rw [len_gt]; exact .bl _)))) (fun c2 H3 e3 => ?_) fun c2 H3 e3 => ?_
  · have hgt := of_decide_eq_true c2
    refine d_ret ((ed_isNil (ed_lcL (A := M) (enc := natsD) (p := fun l => !nkB (i.at (i.R, l))) (f := natsD) (ed_var rfl (dp_ex e3 _ _ hv)) (fun _ => rfl) (by omega) (fun _ _ => noL_nats _) (fun l hl u H4 e4 hu => ?_) fun l hl _ u H4 e4 hu => ed_var rfl hu) (shaped_llots _)).is ?_) fun v H4 e4 hv4 => q v H4 (e1.trans (e2.trans (e3.trans e4))) hv4
    · have eA := e2.trans (e3.trans e4)
      obtain ⟨o1, o2⟩ := cols_at ok hM hgt l hl
      exact et_not (et_Bd (ed_nk (p := i.at (i.R, l)) (ea_consD (ed_var rfl (dp_ex eA _ _ ht1)) (ea2 (ed_var rfl (dp_ex eA _ _ hr1)) (ed_var rfl hu))) o1 (by show i.R.length + l.length ≤ N; omega)))
    · refine congrArg PyData.bool ?_
      rw [List.isEmpty_map]
      exact nk_all (down_cols hM)
  have e13 := e2.trans e3
  refine dq_fnR i (ea_consD (ed_var rfl (dp_ex e13 _ _ ht1)) (ea2 (ed_var rfl (dp_ex e13 _ _ hr1)) (ed_var rfl (dp_ex e13 _ _ hc1)))) ok rfl fun d v2 H4 e4 hp hv2 => ?_
  obtain ⟨L, rfl, hL⟩ := hp
  have lf := hL.few
  have e14 := e13.trans e4
  refine d_ret ((ed_andV (a := decide (1 < L.length)) (b := (L.filter fun l => !nkB (i.at (l, i.C))).isEmpty) (ed_I0 (i := ((L.map natsD).length : Nat)) (j := 1) (ed_lenL (ed_var rfl hv2)) ed_int fun H1 => by rw [len_gt]; exact .bl _) fun c3 => ?_).is ?_) fun v5 H5 e5 hv5 => q v5 H5 (e1.trans (e14.trans e5)) hv5
  · have hgt := of_decide_eq_true c3
    refine (ed_isNil (ed_lcL (A := L) (enc := natsD) (p := fun l => !nkB (i.at (l, i.C))) (f := natsD) (ed_var rfl hv2) (fun _ => rfl) (by omega) (fun _ _ => noL_nats _) (fun l hl u H5 e5 hu => ?_) fun l hl _ u H5 e5 hu => ed_var rfl hu) (shaped_llots _)).is ?_
    · have eA := e14.trans e5
      obtain ⟨o1, o2⟩ := rows_at ok hL hgt l hl
      exact et_not (et_Bd (ed_nk (p := i.at (l, i.C)) (ea_consD (ed_var rfl (dp_ex eA _ _ ht1)) (ea2 (ed_var rfl hu) (ed_var rfl (dp_ex eA _ _ hc1)))) o1 (by show l.length + i.C.length ≤ N; omega)))
    · rw [List.isEmpty_map]
  · refine congrArg PyData.bool ?_
    by_cases c3 : 1 < L.length
    · rw [decide_eq_true c3, Bool.true_and]
      exact nk_all (g := fun l => i.at (l, i.C)) (down_rows hL)
    · rw [decide_eq_false c3, Bool.false_and]
      have nk := stuck_knot ok.rne ok.cne c hL hM c3 (of_decide_eq_false c2)
      cases e : nkB i with
      | false => rfl
      | true => exact absurd (nkB_iff.mp e) nk
/-! ### _law_joined -/
def spJoin (K : PySem.W.Frag) : Sp := sp1 K 1 TI.ok (fun i => [tabD i.t]) fun i => rowD (sortI i.t.flatten)
theorem flat36 {i : TI} (ok : i.ok) : i.t.flatten.length ≤ 36 := by
  have hz := flat_le36 (A := i.t) (B := fun r => r) (f := fun _ a => PyData.int a) (by rw [ok.rows]; exact ok.n6) fun r hr => by rw [ok.cols r hr]; exact ok.m6
  rw [flat_cells, List.length_map] at hz
  exact hz
theorem ok__law_joined (F : Fun K "_law_joined" "_law_joined" (top 45) f fd) (B : Bi mg) (C : Co mg) : FnOk P w K mg base CX0 (k + 1) f fd ["_law_lots_here"] (spJoin K) := by
  refine F.ok sc__law_joined (fun vs H Q E h => h.elim fun _ q => q.1) (fun cdv A outer s H vs Q E hr h => ?_)
  obtain ⟨i, _, ok, hd, q⟩ := h
  obtain ⟨vt, rfl, ht⟩ := dps_1 hd
  refine ⟨_, d__law_joined B C hr, ?_⟩
  have n6 := ok.n6
  have m6 := ok.m6
  have f36 := flat36 ok
  refine dq_asg (K := K) (d := .list []) (ed_lst ea_nilD (Nat.le_of_ble_eq_true rfl)) fun vf H1 e1 hf => ?_
  refine dq_forT (A := i.t) (enc := rowD) (ed_var rfl (dp_ex e1 _ _ ht)) (fun _ _ => noL_row _) (fun H2 m σ' H' => ∃ (vf : V) (y2 : Option V), σ' = [some vt, some vf, y2] ∧ Ex H2 H' ∧ Dp K H' vf (.list ((i.t.take m).flatten.map .int)))
    (fun H2 e2 => ⟨vf, none, rfl, Ex.refl _, dp_ex e2 _ _ hf⟩) (fun H2 m σ' H' _ hp => ?_) (fun m r v σ' H2 H' e2 hm hv hp => ?_) fun H2 σ' H' e2 hp => ?_
  · obtain ⟨_, _, _, ex, _⟩ := hp
    exact ts_ex ex
  · clear hf
    obtain ⟨vf, y2, rfl, ex, hf⟩ := hp
    have lt : (i.t.take m).flatten.length ≤ i.t.flatten.length := by
      conv => rhs; rw [← List.take_append_drop m i.t]
      rw [List.flatten_append, List.length_append]
      omega
    refine d_asg (ed_catL (ed_var rfl hf) (ed_listT (ds := r.map .int) (ed_var rfl hv)) (by rw [List.length_map, List.length_map, ok.cols r (List.mem_of_getElem? hm)]; omega)) fun v3 H3 e3 hv3 => ⟨v3, _, rfl, ex.trans e3, ?_⟩
    rw [take_snoc hm, List.flatten_append, List.flatten_singleton, List.map_append]
    exact hv3
  · clear hf
    obtain ⟨vf, y2, rfl, ex, hf⟩ := hp
    rw [List.take_length] at hf
    exact d_ret (d := rowD (sortI i.t.flatten)) (ed_tupleL (ed_sorted (ed_var rfl hf) (by omega) fun xs hp hs => sortI_one hp hs)) fun v H3 e3 hv => q v H3 (e1.trans (e2.trans (ex.trans e3))) hv
end
end K15
namespace K15
open PySem L2 Evl
open PySem.W (alike alikeAll dataLt dataLe keyToks keyToksAll AllAlike Sortable AlikeAll)
section
variable {K : PySem.W.Frag} {σ : L2.St} {H H0 : Hp} {ta tb tc te tl tk tv : TE} {tt : TT} {d d1 d2 : PyData} {ds es out : List PyData} {D : Ends} {tu tz : L2.TS} {t : TA}
/-- over a list that stands since H0 -/
theorem d_forLv {α : Type} {A : List α} {enc : α → PyData} {i j : Nat} {v : V} (h0 : σ[i]? = some (some v)) (hv : Dp K H0 v (.list (A.map enc))) (Pv : Nat → L2.St → Hp → Prop) (hP : Pv 0 σ H)
    (hl : ∀ m σ' H', Pv m σ' H' → Ex H0 H') (hs : ∀ m a u σ' H', A[m]? = some a → Dp K H' u (enc a) → Pv m σ' H' → tu { D with nx := Pv (m + 1), ct := Pv (m + 1), bk := D.nx } (σ'.set j (some u)) H')
    (hd : ∀ σ' H', Pv A.length σ' H' → D.nx σ' H') : tFor (iList K (tVar i)) (gName j) tu D σ H := by
  obtain ⟨a, xs, rfl, hs', hdp⟩ := dp_lst hv
  have hlen : xs.length = A.length := by rw [dps_len hdp, List.length_map]
  refine ⟨_, h0, a, rfl, ⟨xs, ex_l (hl _ _ _ hP) hs'⟩, for_list Pv hP (fun i σ' H' _ p => ex_l (hl _ _ _ p) hs') (fun m x σ' H' hi p => ?_) fun σ' H' p => hd σ' H' (by rw [← hlen]; exact p)⟩
  obtain ⟨b, hb, hx⟩ := dpAll_forall enc hdp hi
  exact hs m b x σ' H' hb (dp_ex (hl _ _ _ p) _ _ hx) p
theorem dq_forLv {α : Type} {A : List α} {enc : α → PyData} {i j : Nat} {v : V} (h0 : σ[i]? = some (some v)) (hv : Dp K H0 v (.list (A.map enc))) (Pv : Nat → L2.St → Hp → Prop) (hP : Pv 0 σ H)
    (hl : ∀ m σ' H', Pv m σ' H' → Ex H0 H') (hs : ∀ m a u σ' H', A[m]? = some a → Dp K H' u (enc a) → Pv m σ' H' → tu { D with nx := Pv (m + 1), ct := Pv (m + 1), bk := tz D } (σ'.set j (some u)) H')
    (hd : ∀ σ' H', Pv A.length σ' H' → tz D σ' H') : tSeq (tFor (iList K (tVar i)) (gName j) tu) tz D σ H := d_forLv (D := { D with nx := tz D }) h0 hv Pv hP hl hs hd
/-- a new list -/
theorem dq_newL {i : Nat} (k : ∀ p, H p = none → Acc K H p [] (upd H p (.lst [])) → tz D (σ.set i (some (.ref p))) (upd H p (.lst []))) : tSeq (tAsg (tLst tNil) (gName i)) tz D σ H :=
  ⟨Nat.zero_le _, fun p hp => k p hp (Acc.new hp)⟩
/-- l.append(e) -/
theorem dq_app {i : Nat} {l : Addr} (h0 : σ[i]? = some (some (.ref l))) (ha : Acc K H0 l out H) (he : Ed K te σ H d) (nl : noLs out = true) (nd : noL d = true) (hz : out.length < 40000) (k : ∀ H', Tst H H' → Acc K H0 l (out ++ [d]) H' → tz D σ H') :
    tSeq (tDrop (tBM K "list" rAppend (tVar i) (tCons te tNil))) tz D σ H := by
  obtain ⟨a1, a2, acc, a3, a4⟩ := id ha
  refine ⟨_, h0, Or.inl ⟨rfl, acc, sq_of a3⟩, he H (Ex.refl H) _ fun v H2 e2 hv => ?_⟩
  obtain ⟨acc', b1, b2, b3⟩ := Acc.put (R := fun H' => tz D σ H') ha e2 hv nl nd hz fun H3 t3 c3 => k H3 ((ts_ex e2).trans t3) c3
  exact ⟨l, acc', v, rfl, rfl, b1, b2, b3⟩
/-- l = l + e -/
theorem d_catA {i : Nat} {l : Addr} (h0 : σ[i]? = some (some (.ref l))) (ha : Acc K H0 l out H) (he : Ed K te σ H (.list es)) (hz : out.length + es.length ≤ 100000) (k : ∀ p H', Ex H H' → Acc K H0 p (out ++ es) H' → D.nx (σ.set i (some (.ref p))) H') :
    tAsg (tOp (rCatL K) (tVar i) te) (gName i) D σ H := by
  obtain ⟨a1, a2, acc, a3, a4⟩ := id ha
  refine ⟨_, h0, he H (Ex.refl H) _ fun v H2 e2 hv => ?_⟩
  obtain ⟨b, ws, rfl, hs2, hd2⟩ := dp_lst hv
  refine ⟨l, b, acc, ws, rfl, rfl, ex_l e2 (sq_of a3), hs2, sz_of (by rw [dps_len a4, dps_len hd2]; exact hz), fun p hp => k p _ (e2.trans (Ex.new hp)) ⟨fresh_back (a2.trans e2) hp, (a2.trans e2).trans (Ex.new hp), _, upd_same, dps_app (dps_ex (e2.trans (Ex.new hp)) _ _ a4) (dps_ex (Ex.new hp) _ _ hd2)⟩⟩
/-- d[a] = n -/
theorem d_dput {i : Nat} {p : Addr} {kvs : List (Key × V)} {a n : Int} (h0 : σ[i]? = some (some (.ref p))) (hp : H p = some (.dK kvs)) (hz : kvs.length < 100000) (hv : Ed K tv σ H (.int n)) (hk : Ed K tk σ H (.int a)) (k : ∀ H1, Ex H H1 → D.nx σ (upd H1 p (.dK (putK kvs (.inl a) (.int n))))) :
    sDPut (tVar i) tk tv D σ H := hv H (Ex.refl H) _ fun v H1 e1 h1 => ⟨_, h0, hk H1 e1 _ fun y H2 e2 h2 => by
  have e3 := dp_int h1
  have e4 := dp_int h2
  subst e3 e4
  exact ⟨p, _, rfl, DPut.k (k := .inl a) (e2 _ _ (e1 _ _ hp)) (sz_lt hz), k H2 (e1.trans e2)⟩⟩
theorem ed_ixX {i : Int} (ha : Ed K ta σ H (.tuple ds)) (hb : Ed K tb σ H (.int i)) (h : atI ds i = some d) : Ed K (tOp (rIx K) ta tb) σ H d :=
  ed_op ha hb fun x y H1 _ hx hy Q q => .inr (.inl (by
    obtain ⟨a, vs, rfl, hs, hd⟩ := dp_tup hx
    obtain ⟨j, h1, h2⟩ := atI_dp (dps_len hd) h
    obtain ⟨v, h3, h4⟩ := dps_get hd h1
    exact ⟨a, vs, i, v, rfl, dp_int hy, hs, h2 v h3, q v H1 (Ex.refl H1) h4⟩))
theorem tl_tuple : PySem.W.kitAny K (.type "tuple") [.type "tuple", .type "list"] = some true := kitAny_cons (kit_ty (r := true) (by decide +kernel)) (fun z => nomatch z) fun _ => rfl
theorem tl_int : PySem.W.kitAny K (.type "int") [.type "tuple", .type "list"] = some false := kitAny_cons (kit_ty (r := false) (by decide +kernel)) (fun _ => kitAny_cons (kit_ty (r := false) (by decide +kernel)) (fun _ => rfl) fun z => nomatch z) fun z => nomatch z
end
section
variable {P : Program} {w : World} {K : PySem.W.Frag} {mg : Str → Option Value} {base : Heap} {f : Addr} {fd : FuncData} {k : Nat}
/-! ### _law_all_lots -/
theorem lawAll_take {as : List Int} {i : Nat} {a : Int} (h : as[i]? = some a) : lawAll (as.take (i + 1)) = (lawAll (as.take i)).flatMap (ext a) := by
  rw [take_snoc h, lawAll_snoc]
  rfl
theorem law_small {as : List Int} (h : Asc as) (h6 : as.length ≤ 6) (i : Nat) : (lawAll (as.take i)).length ≤ 720 ∧ ∀ l ∈ lawAll (as.take i), l.length ≤ 6 ∧ ∀ x ∈ l, x.length ≤ 6 := by
  obtain ⟨_, z2, z3⟩ := found_ok h h6 i
  exact ⟨z2, fun l hl => z3 l ((all_perm _).mem_iff.mpr hl)⟩
theorem flat_ext {A : List Lots} {a : Int} (h : ∀ l ∈ A, l.length ≤ 6) : (A.flatMap (ext a)).length ≤ A.length * 7 := by
  rw [List.length_flatMap]
  have := sum_le_mul (A.map fun l => (ext a l).length) 7 (fun x hx => by
    obtain ⟨l, hl, rfl⟩ := List.mem_map.mp hx
    rw [ext_length]
    have := h l hl
    omega)
  rw [List.length_map] at this
  exact this
def spLAll (K : PySem.W.Frag) : Sp := sp1 K 1 BI.Ok (fun i => [.list (i.as.map .int)]) fun i => lotsD (lawAll i.as)
theorem ok__law_all_lots (F : Fun K "_law_all_lots" "_law_all_lots" (top 46) f fd) (B : Bi mg) (C : Co mg) : FnOk P w K mg base CX0 (k + 1) f fd ["_law_answers"] (spLAll K) := by
  refine F.ok sc__law_all_lots (fun vs H Q E h => h.elim fun _ q => q.1) (fun cdv A outer s H vs Q E hr h => ?_)
  obtain ⟨i, _, ⟨asc, six⟩, hd, q⟩ := h
  obtain ⟨va, rfl, ha⟩ := dps_1 hd
  refine ⟨_, d__law_all_lots B C hr, ?_⟩
  refine dq_asg (K := K) (d := lotsD [[]]) (ed_lst (ea1 (ed_tup ea_nilD (Nat.le_of_ble_eq_true rfl))) (Nat.le_of_ble_eq_true rfl)) fun vf H1 e1 hf => ?_
  have ha1 := dp_ex e1 _ _ ha
  refine dq_forL (A := i.as) (enc := .int) (ed_var rfl ha1) (fun H2 m σ' H' => ∃ (vf : V) (y2 y3 y4 y5 : Option V), σ' = [some va, some vf, y2, y3, y4, y5] ∧ Ex H2 H' ∧ Dp K H' vf (lotsD (lawAll (i.as.take m))))
    (fun H2 e2 => ⟨vf, none, none, none, none, rfl, Ex.refl _, dp_ex e2 _ _ hf⟩) (fun H2 m σ' H' _ hp => ?_) (fun m a v σ' H2 H' e2 hm hv hp => ?_) fun H2 σ' H' e2 hp => ?_
  · obtain ⟨_, _, _, _, _, _, ex, _⟩ := hp
    exact ex
  · clear hf
    obtain ⟨vf, y2, y3, y4, y5, rfl, ex, hf⟩ := hp
    have ev := dp_int hv
    subst ev
    obtain ⟨z1, z2⟩ := law_small asc six m
    refine dq_newL (K := K) fun p hp0 acc0 => ?_
    refine dq_forLv (A := lawAll (i.as.take m)) (enc := tabD) (H0 := H') rfl hf (fun j σ' H'' => ∃ (l : Addr) (y4 : Option V), σ' = [some va, some vf, some (.int a), some (.ref l), y4, y5] ∧ Acc K H' l ((((lawAll (i.as.take m)).take j).flatMap (ext a)).map tabD) H'')
      ⟨p, y4, rfl, acc0⟩ (fun j σ' H'' hp => ?_) (fun j l v σ' H'' hj hv hp => ?_) fun σ' H'' hp => ?_
    · obtain ⟨_, _, _, _, ex, _⟩ := hp
      exact ex
    · obtain ⟨la, y4, rfl, acc⟩ := hp
      have hlm : l ∈ lawAll (i.as.take m) := List.mem_of_getElem? hj
      obtain ⟨l6, x6⟩ := z2 l hlm
      have fb := flat_ext (A := (lawAll (i.as.take m)).take j) (a := a) fun l hl => (z2 l (List.mem_of_mem_take hl)).1
      have tl := List.length_take_le' j (lawAll (i.as.take m))
      refine dq_app rfl acc (ed_extN (by omega) (ed_var rfl hv) (ed_var rfl (.int _))) (noLs_map fun _ _ => noL_tab _) (noL_tab _) (by rw [List.length_map]; omega) fun H5 t5 acc5 => ?_
      refine d_catA rfl acc5 (ed_lcR (n := l.length) (p := fun _ => true) (f := fun at' => tabD (extAt a l at')) (ea1 ((ed_lenT (ed_var rfl (dp_ts t5 _ _ (noL_tab _) hv))).is (by rw [List.length_map]))) (fun _ => rfl) (by omega) (fun _ _ => noL_tab _) (fun _ _ _ _ => et_yes) fun at' hat _ H6 e6 => ?_) ?_ fun p6 H6 e6 acc6 => ⟨p6, _, rfl, ?_⟩
      · exact ed_extAt hat (by omega) (fun x hx => by have := x6 x hx; omega) (ed_var rfl (dp_ex e6 _ _ (dp_ts t5 _ _ (noL_tab _) hv))) (ed_var rfl (.int _)) (ed_var rfl (.int _))
      · rw [filter_yes, List.length_map, List.length_range, List.length_append, List.length_map, List.length_singleton]
        omega
      · rw [filter_yes] at acc6
        rw [take_snoc hj, List.flatMap_append, List.flatMap_singleton, List.map_append, ext, List.map_cons, List.map_map]
        rw [List.append_assoc, List.singleton_append] at acc6
        exact acc6
    · obtain ⟨la, y4, rfl, acc⟩ := hp
      rw [List.take_length] at acc
      obtain ⟨a1, a2, ac, a3, a4⟩ := acc
      refine d_asg (d := lotsD (lawAll (i.as.take (m + 1)))) (ed_var rfl (v := .ref la) ?_) fun v5 H5 e5 hv5 => ⟨v5, _, _, _, _, rfl, (ex.trans a2).trans e5, hv5⟩
      rw [lawAll_take hm]
      exact .lst (sq_of a3) a4
  · clear hf
    obtain ⟨vf, y2, y3, y4, y5, rfl, ex, hf⟩ := hp
    rw [List.take_length] at hf
    exact d_ret (ed_var rfl hf) fun v H3 e3 hv => q v H3 (e1.trans (e2.trans (ex.trans e3))) hv
/-! ### _law_blurred -/
theorem ok__law_blurred (F : Fun K "_law_blurred" "_law_blurred" (top 47) f fd) (B : Bi mg) (C : Co mg) : FnOk P w K mg base CX0 (k + 1) f fd ["_law_table_here", "_law_lots_here"] (spBlur K) := by
  refine F.ok sc__law_blurred (fun vs H Q E h => h.elim fun _ q => q.1) (fun cdv A outer s H vs Q E hr h => ?_)
  obtain ⟨i, _, ok, hd, q⟩ := h
  obtain ⟨vt, v, rfl, ht, hv⟩ := dps_2 hd
  refine ⟨_, d__law_blurred B C hr, ?_⟩
  have six := ok.six
  have fl := ok.lots.flen
  have n6 := ok.tab.n6
  have m6 := ok.tab.m6
  intro p hp0
  have e1 : Ex H (upd H p (.dK [])) := Ex.new hp0
  have ht1 := dp_ex e1 _ _ ht
  have hv1 := dp_ex e1 _ _ hv
  have h1p : upd H p (.dK []) p = some (.dK []) := upd_same
  generalize upd H p (.dK []) = H1 at e1 ht1 hv1 h1p ⊢
  refine dq_forT (A := i.l) (enc := rowD) (ed_var rfl hv1) (fun _ _ => noL_row _) (fun H2 m σ' H' => ∃ (y3 y4 y5 : Option V) (kvs : List (Key × V)), σ' = [some vt, some v, some (.ref p), y3, y4, y5] ∧ Ex H H' ∧ Tst H2 H' ∧ H' p = some (.dK kvs) ∧ (∀ a ∈ (i.l.take m).flatten, valV kvs (Sum.inl a) = some (.int (headOf i.l a))) ∧ kvs.length ≤ (i.l.take m).flatten.length)
    (fun H2 e2 => ⟨none, none, none, [], rfl, e1.trans e2, Tst.refl _, e2 _ _ h1p, fun a ha => by simp at ha, Nat.zero_le _⟩) (fun H2 m σ' H' _ hp => ?_) (fun m x vx σ' H2 H' e2 hm hvx hp => ?_) fun H2 σ' H' e2 hp => ?_
  · obtain ⟨_, _, _, _, _, _, t, _⟩ := hp
    exact t
  · obtain ⟨y3, y4, y5, kvs0, rfl, ex, tt, hk0, hf0, hc0⟩ := hp
    have xm : x ∈ i.l := List.mem_of_getElem? hm
    have lx := ok.lots.xlen xm
    have lt : (i.l.take m).flatten.length ≤ i.l.flatten.length := by
      conv => rhs; rw [← List.take_append_drop m i.l]
      rw [List.flatten_append, List.length_append]
      omega
    refine d_forT (A := x) (enc := .int) (ed_var rfl hvx) (fun _ _ => rfl) (fun H3 j σ' H'' => ∃ (y4 : Option V) (kvs : List (Key × V)), σ' = [some vt, some v, some (.ref p), some vx, y4, y5] ∧ Ex H H'' ∧ Tst H3 H'' ∧ H'' p = some (.dK kvs) ∧ (∀ a ∈ (i.l.take m).flatten ++ x.take j, valV kvs (Sum.inl a) = some (.int (headOf i.l a))) ∧ kvs.length ≤ ((i.l.take m).flatten ++ x.take j).length)
      (fun H3 e3 => ⟨y4, kvs0, rfl, ex.trans e3, Tst.refl _, e3 _ _ hk0, by rw [List.take_zero, List.append_nil]; exact hf0, by rw [List.take_zero, List.append_nil]; exact hc0⟩) (fun H3 j σ' H'' _ hp => ?_) (fun j a va σ' H3 H'' e3 hj hva hp => ?_) fun H3 σ' H'' e3 hp => ?_
    · obtain ⟨_, _, _, _, t, _⟩ := hp
      exact t
    · obtain ⟨y4, kvs, rfl, ex3, t3, hk, hf, hc⟩ := hp
      have ev := dp_int hva
      subst ev
      have am : a ∈ x := List.mem_of_getElem? hj
      have hvx3 := dp_ts ((ts_ex e3).trans t3) _ _ (noL_row _) hvx
      refine d_dput (n := headOf i.l a) (a := a) rfl hk ?_ ((ed_drop1 (ok.lots.ne x xm) (ed_var rfl hvx3)).is (by rw [headOf_eq ok.ans.asc ok.lots xm am])) (ed_var rfl (.int _)) fun H4 e4 => ⟨_, _, rfl, Ex.mut (ex3.trans e4) hp0, (t3.trans (ts_ex e4)).trans (ts_upd (e4 _ _ hk) rfl), upd_same, fun b hb => ?_, ?_⟩
      · rw [List.length_append, List.length_take] at hc
        omega
      · rw [valV_put]
        by_cases c : (Sum.inl b : Key) = Sum.inl a
        · rw [if_pos c, Sum.inl.inj c]
        · rw [if_neg c]
          rw [take_snoc hj, ← List.append_assoc, List.mem_append, List.mem_singleton] at hb
          rcases hb with z | z
          · exact hf b z
          · exact absurd (congrArg Sum.inl z) c
      · have := length_putK kvs (Sum.inl a) (V.int (headOf i.l a))
        rw [take_snoc hj, ← List.append_assoc, List.length_append, List.length_singleton]
        omega
    · obtain ⟨y4, kvs, rfl, ex3, t3, hk, hf, hc⟩ := hp
      rw [List.take_length] at hf hc
      refine ⟨_, _, _, kvs, rfl, ex3, (tt.trans (ts_ex e3)).trans t3, hk, ?_, ?_⟩
      · rw [take_snoc hm, List.flatten_append, List.flatten_singleton]
        exact hf
      · rw [take_snoc hm, List.flatten_append, List.flatten_singleton]
        exact hc
  · obtain ⟨y3, y4, y5, kvs, rfl, ex, tt, hk, hf, hc⟩ := hp
    rw [List.take_length] at hf
    have ht2 := dp_ex ex _ _ ht
    refine d_ret (d := tabD (blurT i.l i.i.t)) (ed_tupleL ((ed_lcT (A := i.i.t) (enc := rowD) (p := fun _ => true) (f := fun r => rowD (r.map (headOf i.l))) (ed_var rfl ht2) (fun _ => rfl) (by rw [ok.tab.rows]; omega) (fun _ _ => noL_row _) (fun _ _ _ _ _ _ => et_yes) fun r hr _ w H3 e3 hw => ?_).is ?_)) fun v H3 e3 hv => q v H3 (ex.trans e3) hv
    · refine ed_tupleL ((ed_lcT (A := r) (enc := .int) (p := fun _ => true) (f := fun a => .int (headOf i.l a)) (ed_var rfl hw) (fun _ => rfl) (by rw [ok.tab.cols r hr]; omega) (fun _ _ => rfl) (fun _ _ _ _ _ _ => et_yes) fun a ha _ u H4 e4 hu => ?_).is ?_)
      · refine ed_dget (ev_var rfl) (e4 _ _ (e3 _ _ hk)) (ed_var rfl hu) (hf a ?_) fun _ _ => .int _
        exact ok.lots.perm.mem_iff.mpr ((ok.ans.mem a).mpr ⟨r, hr, ha⟩)
      · rw [filter_yes, List.map_map]
        rfl
    · rw [filter_yes, blurT, List.map_map]
      rfl
/-! ### _law_alike -/
def okA : Nat → PyData → Prop
  | 0, _ => False
  | n + 1, d => (∃ i, d = .int i) ∨ ∃ ds, d = .tuple ds ∧ ds.length ≤ 1000 ∧ ∀ e ∈ ds, okA n e
theorem okA_row {r : List Int} (h : r.length ≤ 1000) : okA 2 (rowD r) := .inr ⟨_, rfl, by rw [List.length_map]; exact h, fun e he => by
  obtain ⟨a, _, rfl⟩ := List.mem_map.mp he
  exact .inl ⟨a, rfl⟩⟩
theorem okA_tab {t : List (List Int)} (h : t.length ≤ 1000) (hr : ∀ r ∈ t, r.length ≤ 1000) : okA 3 (tabD t) := .inr ⟨_, rfl, by rw [List.length_map]; exact h, fun e he => by
  obtain ⟨a, ha, rfl⟩ := List.mem_map.mp he
  exact okA_row (hr a ha)⟩
def spAlike (K : PySem.W.Frag) (N : Nat) : Sp := sp1 K 2 (okA N) (fun d => [d, d]) fun _ => .bool true
theorem ed_alike {N : Nat} {σ : L2.St} {H : Hp} {E : XK} {t : TA} {d : PyData} (h : EdA K t σ H [d, d]) (ok : okA N d) : Ed K (tCall (spAlike K N) [] E t) σ H (.bool true) :=
  ed_fn (pre := okA N) (args := fun d => [d, d]) (out := fun _ => .bool true) d h ok rfl
theorem alike_0 : FnOk P w K mg base CX0 0 f fd ["_law_found", "_law_due"] (spAlike K 0) := by
  have no : ∀ vs H Q E, ¬ spAlike K 0 vs H Q E := fun vs H Q E h => by
    obtain ⟨p, _, ok, _⟩ := h
    exact ok
  (exact ⟨fun vs H Q E h => absurd h (no vs H Q E), fun A outer s H args us vs Q E _ _ _ _ h => absurd h (no vs H Q E)⟩)
theorem ok__law_alike {N : Nat} (F : Fun K "_law_alike" "_law_alike" (top 34) f fd) (B : Bi mg) (C : Co mg) (G : Fn P w K mg base k "_law_alike" ["_law_found", "_law_due"] (spAlike K N)) : FnOk P w K mg base CX0 (k + 1) f fd ["_law_found", "_law_due"] (spAlike K (N + 1)) := by
  refine F.ok sc__law_alike (fun vs H Q E h => h.elim fun _ q => q.1) (fun cdv A outer s H vs Q E hr h => ?_)
  obtain ⟨d, _, ok, hd, q⟩ := h
  obtain ⟨v, u, rfl, hv, hu⟩ := dps_2 hd
  refine ⟨_, d__law_alike B C _ G hr, ?_⟩
  rcases ok with ⟨n, rfl⟩ | ⟨ds, rfl, few, ok⟩
  · refine q_when (b := false) (et_Bd (ed_isiTL (ed_var rfl hu) rfl tl_int)) (fun c => absurd c (by decide)) fun _ H1 e1 => ?_
    have hv1 := dp_ex e1 _ _ hv
    have hu1 := dp_ex e1 _ _ hu
    refine q_when (b := false) (et_Bd (ed_isi (ed_var rfl hu1) rfl (by decide +kernel))) (fun c => absurd c (by decide)) fun _ H2 e2 => ?_
    have hv2 := dp_ex e2 _ _ hv1
    have hu2 := dp_ex e2 _ _ hu1
    refine q_when (b := false || false) (et_or (et_testd (K := K) (ed_isNone (ed_var rfl hu2))) fun _ => et_Bd (ed_isi (ed_var rfl hu2) rfl (by decide +kernel))) (fun c => absurd c (by decide)) fun _ H3 e3 => ?_
    have hv3 := dp_ex e3 _ _ hv2
    have hu3 := dp_ex e3 _ _ hu2
    refine d_ret ((ed_andV (a := true) (b := true) (ed_isi (ed_var rfl hv3) rfl (by decide +kernel)) fun _ => (ed_andV (ed_eqB (ed_isi (r := false) (ed_var rfl hv3) rfl (by decide +kernel)) (ed_isi (r := false) (ed_var rfl hu3) rfl (by decide +kernel))) fun _ => ed_eqD (ed_var rfl hv3) (ed_var rfl hu3) rfl rfl).is (by simp [PyData.eqv])).is rfl) fun v H4 e4 hv => q v H4 (e1.trans (e2.trans (e3.trans e4))) hv
  · refine q_when (b := true) (et_Bd (ed_isiTL (ed_var rfl hu) rfl tl_tuple)) (fun _ H1 e1 => ?_) fun c => absurd c (by decide)
    have hv1 := dp_ex e1 _ _ hv
    have hu1 := dp_ex e1 _ _ hu
    refine q_when (b := !true || !(false == false)) (et_or (et_not (et_Bd (ed_isiTL (ed_var rfl hv1) rfl tl_tuple))) fun _ => et_testd (K := K) (ed_neB (ed_isi (r := false) (ed_var rfl hv1) rfl (by decide +kernel)) (ed_isi (r := false) (ed_var rfl hu1) rfl (by decide +kernel)))) (fun c => absurd c (by decide)) fun _ H2 e2 => ?_
    have hv2 := dp_ex e2 _ _ hv1
    have hu2 := dp_ex e2 _ _ hu1
    refine q_when (et_testd (K := K) (ed_neI (ed_lenT (ed_var rfl hv2)) (ed_lenT (ed_var rfl hu2)))) (fun c => by simp at c) fun _ H3 e3 => ?_
    have hv3 := dp_ex e3 _ _ hv2
    have hu3 := dp_ex e3 _ _ hu2
    refine d_ret ((ed_isNil (ed_lcR (n := ds.length) (p := fun _ => false) (f := natD) (ea1 (ed_lenT (ed_var rfl hu3))) (fun _ => rfl) (by omega) (fun _ _ => rfl) (fun i hi H4 e4 => ?_) fun i hi c => absurd c (by decide)) (shaped_lnats _)).is ?_) fun v H4 e4 hv => q v H4 (e1.trans (e2.trans (e3.trans e4))) hv
    · have hg := List.getElem?_eq_getElem hi
      refine et_not (et_Bd (ed_alike (d := ds[i]) (ea2 (ed_ixX (ed_var rfl (dp_ex e4 _ _ hv3)) (ed_var rfl (.int _)) (atI_nat hg)) (ed_ixX (ed_var rfl (dp_ex e4 _ _ hu3)) (ed_var rfl (.int _)) (atI_nat hg))) (ok _ (List.getElem_mem hi))))
    · rw [List.isEmpty_map, empty_filter]
      simp
end
end K15
namespace K15
open PySem L2 Evl
/-! ### what changes only at some addresses -/
def Exs (S : List Addr) (H H' : Hp) : Prop := ∀ b o, b ∉ S → H b = some o → H' b = some o
theorem Exs.refl (S : List Addr) (H : Hp) : Exs S H H := fun _ _ _ h => h
theorem Exs.trans {S : List Addr} {H H1 H2 : Hp} (a : Exs S H H1) (b : Exs S H1 H2) : Exs S H H2 := fun x o n h => b x o n (a x o n h)
theorem Exs.of {S : List Addr} {H H1 : Hp} (e : Ex H H1) : Exs S H H1 := fun x o _ h => e x o h
theorem Exs.mono {S T : List Addr} {H H1 : Hp} (e : Exs S H H1) (h : ∀ x ∈ S, x ∈ T) : Exs T H H1 := fun x o n q => e x o (fun z => n (h x z)) q
theorem Exs.upd {S : List Addr} {H H1 : Hp} {a : Addr} {o : HO} (e : Exs S H H1) (h : a ∈ S) : Exs S H (upd H1 a o) := fun x u n q => by
  rw [upd_ne (fun z => n (by rw [z]; exact h))]
  exact e x u n q
/-- the row of draws -/
structure RowOk (K : PySem.W.Frag) (H : Hp) (R a : Addr) (ns : List Int) : Prop where
  row : ∃ p s h : Int, H R = some (.lst [.ref a, .int p, .int s, .int h]) ∧ 0 ≤ p
  scr : SqL K H a (ns.map V.int)
  few : ns.length ≤ 63
section
variable {K : PySem.W.Frag} {σ : L2.St} {H H0 H1 H' : Hp} {R a : Addr} {ns : List Int} {ta tb tc te tl tk tv : TE} {d d1 d2 : PyData} {D : Ends} {tu tz : L2.TS} {t : TA}
theorem RowOk.ne (ok : RowOk K H R a ns) (h : H a = some (.lst (ns.map V.int))) : a ≠ R := fun e => by
  obtain ⟨p, s, h', hR, _⟩ := ok.row
  rw [e, hR] at h
  have q := HO.lst.inj (Option.some.inj h)
  cases ns with
  | nil => cases q
  | cons n r => cases q
theorem RowOk.scr' (ok : RowOk K H R a ns) (e : Exs [R] H H') : SqL K H' a (ns.map V.int) := by
  obtain ⟨p, s, h', hR, _⟩ := ok.row
  rcases ok.scr with (h | ⟨o, h⟩) | h
  · exact .inl (.inl (e a _ (fun z => ok.ne h (List.mem_singleton.mp z)) h))
  · refine .inl (.inr ⟨o, e a _ (fun z => ?_) h⟩)
    rw [List.mem_singleton.mp z, hR] at h
    cases h
  · exact .inr h
theorem RowOk.ex (ok : RowOk K H R a ns) (e : Ex H H1) : RowOk K H1 R a ns := by
  obtain ⟨p, s, h, hR, hp⟩ := ok.row
  exact ⟨⟨p, s, h, e _ _ hR, hp⟩, ex_l e ok.scr, ok.few⟩
theorem RowOk.set (ok : RowOk K H R a ns) {p s h : Int} (hp : 0 ≤ p) : RowOk K (upd H R (.lst [.ref a, .int p, .int s, .int h])) R a ns :=
  ⟨⟨p, s, h, upd_same, hp⟩, ok.scr' ((Exs.refl [R] H).upd (List.mem_singleton.mpr rfl)), ok.few⟩
theorem RowOk.tst (ok : RowOk K H R a ns) (e : Exs [R] H H') : Tst H H' := fun b o h f => e b o (fun z => by
  obtain ⟨p, s, h', hR, _⟩ := ok.row
  rw [List.mem_singleton.mp z, hR] at h
  have := Option.some.inj h
  subst this
  cases f) h
theorem ed_at {i : Nat} {j : Int} {xs : List V} {n : Int} (h0 : σ[i]? = some (some (.ref R))) (hR : H R = some (.lst xs)) (hx : atI xs j = some (.int n)) : Ed K (tOp (rIxL K) (tVar i) (tC (.int j))) σ H (.int n) :=
  ed_ev (ev_op (ev_var h0) ev_c (rv_ixL (sq_of hR) hx)) fun _ _ => .int n
theorem ed_fdiv {i j : Int} (ha : Ed K ta σ H (.int i)) (hb : Ed K tb σ H (.int j)) (h : 0 < j ∧ j < 1000000) : Ed K (tOp rFdivI ta tb) σ H (.int (i / j)) := ed_I ha hb ⟨h.1, by omega⟩ fun _ => .int _
theorem ed_mod {i j : Int} (ha : Ed K ta σ H (.int i)) (hb : Ed K tb σ H (.int j)) (h : 0 < j) : Ed K (tOp rModI ta tb) σ H (.int (i % j)) := ed_I ha hb h fun _ => .int _
theorem ed_add {i j : Int} (ha : Ed K ta σ H (.int i)) (hb : Ed K tb σ H (.int j)) : Ed K (tOp rAddI ta tb) σ H (.int (i + j)) := ed_I0 ha hb fun _ => .int _
theorem ed_sub {i j : Int} (ha : Ed K ta σ H (.int i)) (hb : Ed K tb σ H (.int j)) : Ed K (tOp rSubI ta tb) σ H (.int (i - j)) := ed_I0 ha hb fun _ => .int _
theorem ed_mul {i j : Int} (ha : Ed K ta σ H (.int i)) (hb : Ed K tb σ H (.int j)) (h : 0 ≤ j ∧ j < 1000000) : Ed K (tOp rMulI ta tb) σ H (.int (i * j)) := ed_I ha hb (.inr ⟨by omega, by omega⟩) fun _ => .int _
theorem d_set {i : Nat} {j : Nat} {xs : List V} {n : Int} (h0 : σ[i]? = some (some (.ref R))) (hR : H R = some (.lst xs)) (hj : j < xs.length) (h : Ed K te σ H (.int n)) (k : ∀ H1, Ex H H1 → D.nx σ (upd H1 R (.lst (xs.set j (.int n))))) :
    tAsg te (gSub (tVar i) (tC (.int (j : Nat))) rSetL) D σ H := s_setL hR (ev_ed h) (ev_var h0) ev_c hj k
theorem dq_set {i : Nat} {j : Nat} {xs : List V} {n : Int} (h0 : σ[i]? = some (some (.ref R))) (hR : H R = some (.lst xs)) (hj : j < xs.length) (h : Ed K te σ H (.int n)) (k : ∀ H1, Ex H H1 → tz D σ (upd H1 R (.lst (xs.set j (.int n))))) :
    tSeq (tAsg te (gSub (tVar i) (tC (.int (j : Nat))) rSetL)) tz D σ H := d_set (D := { D with nx := tz D }) h0 hR hj h k
end
section
variable {P : Program} {w : World} {K : PySem.W.Frag} {mg : Str → Option Value} {base : Heap} {f : Addr} {fd : FuncData} {k : Nat}
/-! ### _law_taken -/
def spTaken (K : PySem.W.Frag) : Sp := fun vs H Q _ => ∃ (R a : Addr) (ns : List Int) (many : Int), vs = [.ref R, .int many] ∧ RowOk K H R a ns ∧ 0 < many ∧ many < 1000000 ∧ ∀ n H', 0 ≤ n → n < many → Exs [R] H H' → RowOk K H' R a ns → Q (.int n) H'
theorem ok__law_taken (F : Fun K "_law_taken" "_law_taken" (top 32) f fd) (B : Bi mg) (C : Co mg) : FnOk P w K mg base CX0 (k + 1) f fd ["_law_row", "_law_many"] (spTaken K) := by
  refine F.ok sc__law_taken (fun vs H Q E h => ?_) (fun cdv A outer s H vs Q E hr h => ?_)
  · obtain ⟨R, a, ns, many, rfl, _⟩ := h
    rfl
  obtain ⟨R, a, ns, many, rfl, ok, m0, m1, q⟩ := h
  refine ⟨_, d__law_taken B C hr, ?_⟩
  obtain ⟨p, s', h', hR, hp⟩ := id ok.row
  have me : ∀ x : Int, 0 ≤ x % many ∧ x % many < many := fun x => ⟨Int.emod_nonneg _ (by omega), Int.emod_lt_of_pos _ m0⟩
  refine q_when (b := decide (0 < h')) (et_testd (K := K) (ed_I0 (i := h') (j := 0) (ed_at rfl hR rfl) ed_int fun _ => .bl _)) (fun c H1 e1 => ?_) fun c H1 e1 => ?_
  · have hR1 := e1 _ _ hR
    refine dq_asg (K := K) (ed_mod (ed_int1 (ed_at rfl hR1 rfl)) (ed_var rfl (.int many)) m0) fun v H2 e2 hv => ?_
    have hR2 := e2 _ _ hR1
    refine dq_set (K := K) (j := 3) rfl hR2 (Nat.le_of_ble_eq_true rfl) (ed_fdiv (ed_at rfl hR2 rfl) (ed_var rfl (.int many)) ⟨m0, m1⟩) fun H3 e3 => ?_
    have eA := e1.trans (e2.trans e3)
    have ev := dp_int hv
    subst ev
    refine d_ret (K := K) (ed_var rfl (.int _)) fun v H4 e4 hv => ?_
    rw [dp_int hv]
    exact q _ _ (me _).1 (me _).2 (((Exs.of eA).upd (List.mem_singleton.mpr rfl)).trans (Exs.of e4)) (((ok.ex eA).set hp).ex e4)
  · have hR1 := e1 _ _ hR
    refine dq_set (K := K) (j := 1) rfl hR1 (Nat.le_of_ble_eq_true rfl) (ed_add (ed_at rfl hR1 rfl) ed_int) fun H2 e2 => ?_
    have e12 := e1.trans e2
    have ok2 : RowOk K (upd H2 R (.lst [.ref a, .int (p + 1), .int s', .int h'])) R a ns := (ok.ex e12).set (by omega)
    have x2 : Exs [R] H (upd H2 R (.lst [.ref a, .int (p + 1), .int s', .int h'])) := (Exs.of e12).upd (List.mem_singleton.mpr rfl)
    have hR2 : upd H2 R (.lst [.ref a, .int (p + 1), .int s', .int h']) R = some (.lst [.ref a, .int (p + 1), .int s', .int h']) := upd_same
    have hset : [V.ref a, .int p, .int s', .int h'].set 1 (.int (p + 1)) = [V.ref a, .int (p + 1), .int s', .int h'] := rfl
    rw [hset]
    generalize upd H2 R (.lst [.ref a, .int (p + 1), .int s', .int h']) = H3 at ok2 x2 hR2 ⊢
    have s0 : Evl.Ev (tOp (rIxL K) (tVar 0) (tC (.int 0))) (start ["_law_row", "_law_many", "_law_cell", "_law_found"] [.ref R, .int many]) H3 (.ref a) := ev_op (ev_var rfl) ev_c (rv_ixL (sq_of hR2) rfl)
    have sl : Ed K (tCB (rLenS K) (tCons (tOp (rIxL K) (tVar 0) (tC (.int 0))) tNil)) (start ["_law_row", "_law_many", "_law_cell", "_law_found"] [.ref R, .int many]) H3 (.int (ns.length : Nat)) := by
      refine ed_ev ((ev_len s0 ok2.scr).mono (Ex.refl _) |> fun z => by rw [List.length_map] at z; exact z) fun _ _ => .int _
    refine q_when (b := decide ((ns.length : Int) < p + 1)) (et_testd (K := K) (ed_I0 (i := p + 1) (j := (ns.length : Nat)) (ed_at rfl hR2 rfl) sl fun _ => .bl _)) (fun c2 H4 e4 => ?_) fun c2 H4 e4 => ?_
    · have hR4 := e4 _ _ hR2
      refine dq_set (K := K) (j := 2) rfl hR4 (Nat.le_of_ble_eq_true rfl) (ed_mod (ed_int1 (ed_add (ed_mul (ed_at rfl hR4 rfl) ed_int ⟨by decide, by decide⟩) ed_int)) ed_int (by decide)) fun H5 e5 => ?_
      have e45 := e4.trans e5
      refine d_ret (K := K) (ed_mod (ed_int1 (ed_fdiv (ed_at rfl upd_same rfl) ed_int ⟨by decide, by decide⟩)) (ed_var rfl (.int many)) m0) fun v H6 e6 hv => ?_
      rw [dp_int hv]
      exact q _ _ (me _).1 (me _).2 (((x2.trans (Exs.of e45)).upd (List.mem_singleton.mpr rfl)).trans (Exs.of e6)) (((ok2.ex e45).set (by omega)).ex e6)
    · have hR4 := e4 _ _ hR2
      have hlt : p.toNat < ns.length := by
        have := of_decide_eq_false c2
        omega
      have s1 : Evl.Ev (tOp (rIxL K) (tVar 0) (tC (.int 0))) (start ["_law_row", "_law_many", "_law_cell", "_law_found"] [.ref R, .int many]) H4 (.ref a) := s0.mono e4
      have hx : atI (ns.map V.int) (p + 1 - 1) = some (.int ns[p.toNat]) := by
        have e0 : p + 1 - 1 = ((p.toNat : Nat) : Int) := by omega
        rw [e0]
        exact atI_map (List.getElem?_eq_getElem hlt)
      refine dq_asg (K := K) (d := .int ns[p.toNat]) (ed_ev (ev_op s1 (ev_ed (K := K) (ed_sub (ed_at rfl hR4 rfl) ed_int)) (rv_ixL (ok2.ex e4).scr hx)) fun _ _ => .int _) fun v H5 e5 hv => ?_
      have ev := dp_int hv
      subst ev
      have e45 := e4.trans e5
      have hR5 := e5 _ _ hR4
      refine dq_set (K := K) (j := 2) rfl hR5 (Nat.le_of_ble_eq_true rfl) (ed_mod (ed_int1 (ed_add (ed_add (ed_mul (ed_at rfl hR5 rfl) ed_int ⟨by decide, by decide⟩) (ed_var rfl (.int _))) ed_int)) ed_int (by decide)) fun H6 e6 => ?_
      have e46 := e45.trans e6
      generalize (s' * 48271 + ns[p.toNat] + 11) % 2147483647 = s2
      have ok6 : RowOk K (upd H6 R (.lst [.ref a, .int (p + 1), .int s2, .int h'])) R a ns := (ok2.ex e46).set (by omega)
      have x6 : Exs [R] H (upd H6 R (.lst [.ref a, .int (p + 1), .int s2, .int h'])) := (x2.trans (Exs.of e46)).upd (List.mem_singleton.mpr rfl)
      have hR6 : upd H6 R (.lst [.ref a, .int (p + 1), .int s2, .int h']) R = some (.lst [.ref a, .int (p + 1), .int s2, .int h']) := upd_same
      have hset : [V.ref a, .int (p + 1), .int s', .int h'].set 2 (.int s2) = [V.ref a, .int (p + 1), .int s2, .int h'] := rfl
      rw [hset]
      generalize upd H6 R (.lst [.ref a, .int (p + 1), .int s2, .int h']) = H7 at ok6 x6 hR6 ⊢
      refine q_when (b := decide ((10 : Int) ^ (18 : Int).toNat ≤ ns[p.toNat])) (et_testd (K := K) (ed_I0 (i := ns[p.toNat]) (j := 10 ^ (18 : Int).toNat) (ed_var rfl (.int _)) (ed_I (C := CPow) (g := fun i j => .int (i ^ j.toNat)) (i := 10) (j := 18) ed_int ed_int ⟨by decide, by decide, by decide⟩ fun _ => .int _) fun _ => .bl _)) (fun c3 H8 e8 => ?_) fun c3 H8 e8 => ?_
      · refine d_set (K := K) (j := 3) rfl (e8 _ _ hR6) (Nat.le_of_ble_eq_true rfl) (ed_fdiv (ed_var rfl (.int _)) (ed_var rfl (.int many)) ⟨m0, m1⟩) fun H9 e9 => ?_
        have e89 := e8.trans e9
        refine d_ret (K := K) (ed_mod (ed_int1 (ed_var rfl (.int _))) (ed_var rfl (.int many)) m0) fun v HA eA hv => ?_
        rw [dp_int hv]
        exact q _ _ (me _).1 (me _).2 (((x6.trans (Exs.of e89)).upd (List.mem_singleton.mpr rfl)).trans (Exs.of eA)) (((ok6.ex e89).set (by omega)).ex eA)
      · refine d_ret (K := K) (ed_mod (ed_int1 (ed_var rfl (.int _))) (ed_var rfl (.int many)) m0) fun v H9 e9 hv => ?_
        rw [dp_int hv]
        have e89 := e8.trans e9
        exact q _ _ (me _).1 (me _).2 (x6.trans (Exs.of e89)) (ok6.ex e89)
end
end K15
namespace K15
open PySem L2 Evl
/-! ### draws: what evaluates to some datum while the row turns -/
def Er (K : PySem.W.Frag) (R a : Addr) (ns : List Int) (te : TE) (σ : L2.St) (H : Hp) (P : PyData → Prop) : Prop :=
  ∀ H1, Exs [R] H H1 → RowOk K H1 R a ns → ∀ Q : VK, (∀ v d H2, Exs [R] H1 H2 → RowOk K H2 R a ns → P d → Dp K H2 v d → Q v H2) → te σ H1 Q
def NatB (m : Int) (d : PyData) : Prop := ∃ n, d = .int n ∧ 0 ≤ n ∧ n < m
theorem pick_list {α : Type} {enc : α → PyData} {p : α → Prop} : ∀ {ds : List PyData}, (∀ e ∈ ds, ∃ r, e = enc r ∧ p r) → ∃ t : List α, ds = t.map enc ∧ ∀ r ∈ t, p r
  | [], _ => ⟨[], rfl, fun _ z => (by cases z)⟩
  | d :: ds, h => by
    obtain ⟨r, rfl, hr⟩ := h d List.mem_cons_self
    obtain ⟨t, rfl, ht⟩ := pick_list fun e he => h e (List.mem_cons_of_mem _ he)
    refine ⟨r :: t, rfl, fun x hx => ?_⟩
    (rcases List.mem_cons.mp hx with rfl | hx)
    · exact hr
    · exact ht x hx
section
variable {K : PySem.W.Frag} {σ : L2.St} {H H0 H1 H' : Hp} {R a : Addr} {ns : List Int} {ta tb tc te tl tk tv : TE} {d d1 d2 : PyData} {D : Ends} {tu tz : L2.TS} {t : TA} {P P1 P2 : PyData → Prop}
theorem RowOk.to (ok : RowOk K H R a ns) (e : Exs [R] H H') (h : ∃ p s h : Int, H' R = some (.lst [.ref a, .int p, .int s, .int h]) ∧ 0 ≤ p) : RowOk K H' R a ns := ⟨h, ok.scr' e, ok.few⟩
theorem RowOk.some (ok : RowOk K H R a ns) : H R ≠ none := fun z => by
  obtain ⟨p, s, h, hR, _⟩ := ok.row
  rw [z] at hR
  cases hR
theorem Er.mono (h : Er K R a ns te σ H P) (e : Exs [R] H H') : Er K R a ns te σ H' P := fun H1 e1 ok Q q => h H1 (e.trans e1) ok Q q
theorem Er.imp (h : Er K R a ns te σ H P) (k : ∀ d, P d → P1 d) : Er K R a ns te σ H P1 := fun H1 e1 ok Q q => h H1 e1 ok Q fun v d H2 e2 ok2 p hv => q v d H2 e2 ok2 (k d p) hv
theorem er_taken {E : XK} {i : Nat} {m : Int} (h0 : σ[i]? = some (some (.ref R))) (hm : 0 < m ∧ m < 1000000) (he : ∀ H1, Exs [R] H H1 → RowOk K H1 R a ns → Ed K te σ H1 (.int m)) :
    Er K R a ns (tCall (spTaken K) [] E (tCons (tVar i) (tCons te tNil))) σ H (NatB m) := fun H1 e1 ok Q q =>
  ⟨_, h0, he H1 e1 ok H1 (Ex.refl _) _ fun v H2 e2 hv => by
    rw [dp_int hv]
    exact ⟨R, a, ns, m, rfl, ok.ex e2, hm.1, hm.2, fun n H3 n0 n1 e3 ok3 => q _ _ H3 ((Exs.of e2).trans e3) ok3 ⟨n, rfl, n0, n1⟩ (.int n)⟩⟩
theorem er_add {c : Int} (h : Er K R a ns te σ H P) (hp : ∀ d, P d → ∃ n, d = .int n) : Er K R a ns (tOp rAddI (tC (.int c)) te) σ H fun d => ∃ n, d = .int (c + n) ∧ P (.int n) := fun H1 e1 ok Q q =>
  h H1 e1 ok _ fun v d H2 e2 ok2 p hv => by
    obtain ⟨n, rfl⟩ := hp d p
    exact ⟨c, n, rfl, dp_int hv, q _ _ H2 e2 ok2 ⟨n, rfl, p⟩ (.int _)⟩
theorem er_tup2 (h1 : Er K R a ns ta σ H P1) (h2 : Er K R a ns tb σ H P2) (n1 : ∀ d, P1 d → noL d = true) : Er K R a ns (tTup (tCons ta (tCons tb tNil))) σ H fun d => ∃ d1 d2, d = .tuple [d1, d2] ∧ P1 d1 ∧ P2 d2 := fun H1 e1 ok Q q =>
  h1 H1 e1 ok _ fun v d H2 e2 ok2 p hv => h2 H2 (e1.trans e2) ok2 _ fun u d' H3 e3 ok3 p' hu => ⟨Nat.le_of_ble_eq_true rfl, fun l hl => by
    have e4 : Ex H3 (upd H3 l (.tup [v, u])) := Ex.new hl
    exact q _ _ _ ((e2.trans e3).trans (Exs.of e4)) (ok3.ex e4) ⟨d, d', rfl, p, p'⟩ (.tup (st_of upd_same) (.cons (dp_ex e4 _ _ (dp_ts (ok2.tst e3) _ _ (n1 d p) hv)) (.cons (dp_ex e4 _ _ hu) .nil)))⟩
theorem er_tupleL (h : Er K R a ns te σ H P) (hp : ∀ d, P d → ∃ ds, d = .list ds) : Er K R a ns (tCB (rTupS K) (tCons te tNil)) σ H fun d => ∃ ds, d = .tuple ds ∧ P (.list ds) := fun H1 e1 ok Q q =>
  h H1 e1 ok _ fun v d H2 e2 ok2 p hv => by
    obtain ⟨ds, rfl⟩ := hp d p
    obtain ⟨l, xs, rfl, hs, hd⟩ := dp_lst hv
    exact ⟨l, xs, rfl, .inl ⟨hs, fun l' hl => q _ _ _ (e2.trans (Exs.of (Ex.new hl))) (ok2.ex (Ex.new hl)) ⟨ds, rfl, p⟩ (.tup (st_of upd_same) (dps_ex (Ex.new hl) _ _ hd))⟩⟩
theorem er_lcR {j n : Nat} {vs : List Nat} (h : ∀ H1, Exs [R] H H1 → RowOk K H1 R a ns → EdA K t σ H1 [.int (n : Nat)]) (hw : ∀ x, wipe ((wipe σ vs).set j (some x)) vs = wipe σ vs) (hz : n ≤ 40000) (hn : ∀ d, P d → noL d = true)
    (he : ∀ i, i < n → ∀ H1, Exs [R] H H1 → Er K R a ns te ((wipe σ vs).set j (some (.int (i : Nat)))) H1 P) :
    Er K R a ns (tLc (iRng1 t) (gName j) tYes te vs) σ H fun d => ∃ ds, d = .list ds ∧ ds.length = n ∧ ∀ e ∈ ds, P e := fun H0 e0 ok0 Q q => h H0 e0 ok0 H0 (Ex.refl _) _ fun v H1 e1 hv => by
  obtain ⟨w, rfl, hw'⟩ := dps_1 hv
  have ew := dp_int hw'
  subst ew
  have ok1 := ok0.ex e1
  refine ⟨(n : Nat), rfl, by omega, by omega, fun Dl hD => lc_range (lo := 0) (n := (n : Int).toNat) (fun i H' => Exs [R] H1 H' ∧ RowOk K H' R a ns ∧ ∃ acc ds, H' Dl = some (.lst acc) ∧ DpAll K H' acc ds ∧ ds.length = i ∧ ∀ e ∈ ds, P e) ⟨Exs.of (Ex.new hD), ok1.ex (Ex.new hD), [], [], upd_same, .nil, rfl, fun _ z => (by cases z)⟩ (fun i H' hi c => ?_) fun H' c => ?_⟩
  · have hi' : i < n := by simpa using hi
    have z : (0 : Int) + (i : Int) = (i : Int) := Int.zero_add _
    show wipe ((wipe σ vs).set j (some (.int ((0 : Int) + (i : Int))))) vs = wipe σ vs ∧ tYes ((wipe σ vs).set j (some (.int ((0 : Int) + (i : Int))))) H' _
    rw [z]
    obtain ⟨c1, c2, acc, ds, c3, c4, c5, c6⟩ := c
    refine ⟨hw _, of_yes ?_⟩
    rw [if_pos rfl]
    refine he i hi' H' ((e0.trans (Exs.of e1)).trans c1) H' (Exs.refl _ _) c2 _ fun y d H3 e3 ok3 p hy => ?_
    have hDR : Dl ∉ [R] := fun z => by
      rw [List.mem_singleton.mp z] at hD
      exact ok1.some hD
    have d3 := e3 Dl _ hDR c3
    have t3 := ok3.tst (Exs.refl _ _)
    refine ⟨acc, d3, by rw [dps_len c4, c5]; exact sz_lt (by omega), ?_⟩
    have x4 : Exs [R] H1 (upd H3 Dl (.lst (acc ++ [y]))) := fun b o n q => by
      rw [upd_ne (fun z => by rw [z, hD] at q; cases q)]
      exact e3 b o n (c1 b o n q)
    have u : Tst H3 (upd H3 Dl (.lst (acc ++ [y]))) := ts_upd d3 rfl
    refine ⟨x4, ok1.to x4 ?_, _, ds ++ [d], upd_same, dps_snoc (dps_ts u _ _ ?_ (dps_ts (c2.tst e3) _ _ ?_ c4)) (dp_ts u _ _ (hn d p) hy), by rw [List.length_append, c5, List.length_singleton], fun e he' => ?_⟩
    · obtain ⟨p', s', h', hR, hp⟩ := ok3.row
      exact ⟨p', s', h', by rw [upd_ne (fun z => hDR (List.mem_singleton.mpr z.symm))]; exact hR, hp⟩
    · have := noLs_map (f := id) (A := ds) fun e he => hn e (c6 e he)
      rw [List.map_id] at this
      exact this
    · have := noLs_map (f := id) (A := ds) fun e he => hn e (c6 e he)
      rw [List.map_id] at this
      exact this
    · rcases List.mem_append.mp he' with z | z
      · exact c6 e z
      · (rw [List.mem_singleton.mp z])
        exact p
  · obtain ⟨c1, c2, acc, ds, c3, c4, c5, c6⟩ := c
    rw [Int.toNat_natCast] at c5
    exact q _ _ H' ((Exs.of e1).trans c1) c2 ⟨ds, rfl, c5, c6⟩ (.lst (sq_of c3) c4)
theorem dr_ret (h : Er K R a ns te σ H P) (ok : RowOk K H R a ns) (k : ∀ v d H2, Exs [R] H H2 → RowOk K H2 R a ns → P d → Dp K H2 v d → D.rt v H2) : tRet te D σ H := h H (Exs.refl _ _) ok _ k
theorem dr_asg {i : Nat} (h : Er K R a ns te σ H P) (ok : RowOk K H R a ns) (k : ∀ v d H2, Exs [R] H H2 → RowOk K H2 R a ns → P d → Dp K H2 v d → tz D (σ.set i (some v)) H2) : tSeq (tAsg te (gName i)) tz D σ H := h H (Exs.refl _ _) ok _ k
theorem dr_asg2 {i j : Nat} (h : Er K R a ns te σ H P) (ok : RowOk K H R a ns) (hp : ∀ d, P d → ∃ d1 d2, d = .tuple [d1, d2]) (k : ∀ d1 d2 x y H2, Exs [R] H H2 → RowOk K H2 R a ns → P (.tuple [d1, d2]) → Dp K H2 x d1 → Dp K H2 y d2 → tz D ((σ.set i (some x)).set j (some y)) H2) :
    tSeq (tAsg te (gTup K 2 (gCons (gName i) (gCons (gName j) gNil)))) tz D σ H := h H (Exs.refl _ _) ok _ fun v d H2 e2 ok2 p hv => by
  obtain ⟨d1, d2, rfl⟩ := hp d p
  exact d_pair (Q := tz D) hv fun x y h1 h2 => k d1 d2 x y H2 e2 ok2 p h1 h2
theorem natB_noL {m : Int} {d : PyData} (h : NatB m d) : noL d = true := by
  obtain ⟨n, rfl, _⟩ := h
  rfl
/-- a list of lots is another list than the row -/
theorem dp_lots_exs (ok : RowOk K H R a ns) (e : Exs [R] H H') {v : V} {S : List Lots} (h : Dp K H v (lotsD S)) : Dp K H' v (lotsD S) := by
  obtain ⟨l, xs, rfl, hs, hd⟩ := dp_lst h
  obtain ⟨p, s, h', hR, _⟩ := ok.row
  refine .lst ?_ (dps_ts (ok.tst e) _ _ (noLs_map fun _ _ => noL_tab _) hd)
  rcases hs with (hs | ⟨o, hs⟩) | hs
  · refine .inl (.inl (e l _ (fun z => ?_) hs))
    rw [List.mem_singleton.mp z, hR] at hs
    have ex := HO.lst.inj (Option.some.inj hs)
    subst ex
    obtain ⟨d, hd1, hd2⟩ := dps_get' (i := 1) hd rfl
    rw [List.getElem?_map, Option.map_eq_some_iff] at hd1
    obtain ⟨l', _, rfl⟩ := hd1
    cases hd2
  · refine .inl (.inr ⟨o, e l _ (fun z => ?_) hs⟩)
    rw [List.mem_singleton.mp z, hR] at hs
    cases hs
  · exact .inr hs
end
section
variable {P : Program} {w : World} {K : PySem.W.Frag} {mg : Str → Option Value} {base : Heap} {f : Addr} {fd : FuncData} {k : Nat}
/-! ### _law_pick -/
def spPick (K : PySem.W.Frag) : Sp := fun vs H Q _ => ∃ (R a : Addr) (ns : List Int) (v : V) (S : List Lots), vs = [.ref R, v] ∧ RowOk K H R a ns ∧ Dp K H v (lotsD S) ∧ S ≠ [] ∧ S.length ≤ 1000 ∧
  ∀ l u H', l ∈ S → Exs [R] H H' → RowOk K H' R a ns → Dp K H' u (tabD l) → Q u H'
theorem ok__law_pick (F : Fun K "_law_pick" "_law_pick" (top 33) f fd) (B : Bi mg) (C : Co mg) (G : Fn P w K mg base k "_law_taken" ["_law_row", "_law_many"] (spTaken K)) : FnOk P w K mg base CX0 (k + 1) f fd ["_law_row", "_law_things"] (spPick K) := by
  refine F.ok sc__law_pick (fun vs H Q E h => ?_) (fun cdv A outer s H vs Q E hr h => ?_)
  · obtain ⟨R, a, ns, v, S, rfl, _⟩ := h
    rfl
  obtain ⟨R, a, ns, v, S, rfl, ok, hv, hne, few, q⟩ := h
  refine ⟨_, d__law_pick B C _ G hr, ?_⟩
  have pos := List.length_pos_iff.mpr hne
  refine ⟨v, rfl, ?_⟩
  refine er_taken (i := 0) (m := ((S.length : Nat) : Int)) rfl ⟨by omega, by omega⟩ (fun H1 e1 _ => (ed_lenL (ed_var rfl (dp_lots_exs ok e1 hv))).is (by rw [List.length_map])) H (Exs.refl _ _) ok _ fun u d H2 e2 ok2 p hu => ?_
  obtain ⟨n, rfl, n0, n1⟩ := p
  rw [dp_int hu]
  have hv2 := dp_lots_exs ok e2 hv
  obtain ⟨l, xs, rfl, hs, hd⟩ := dp_lst hv2
  have hlt : n.toNat < S.length := by omega
  have hg : (S.map tabD)[n.toNat]? = some (tabD S[n.toNat]) := by
    rw [List.getElem?_map, List.getElem?_eq_getElem hlt]
    rfl
  obtain ⟨x, hx, hdx⟩ := dps_get hd hg
  have en : n = ((n.toNat : Nat) : Int) := by omega
  exact ⟨l, xs, n, x, rfl, rfl, hs, by rw [en]; exact atI_nat hx, q _ x H2 (List.getElem_mem hlt) e2 ok2 hdx⟩
/-! ### _law_table -/
def spTable (K : PySem.W.Frag) : Sp := fun vs H Q _ => ∃ (R a : Addr) (ns : List Int) (h1 h2 h3 : Int), vs = [.ref R, .int h1, .int h2, .int h3] ∧ RowOk K H R a ns ∧ (0 < h1 ∧ h1 ≤ 6) ∧ (0 < h2 ∧ h2 ≤ 6) ∧ (0 < h3 ∧ h3 ≤ 99) ∧
  ∀ (i : TI) u H', i.ok → Exs [R] H H' → RowOk K H' R a ns → Dp K H' u (tabD i.t) → Q u H'
theorem ok__law_table (F : Fun K "_law_table" "_law_table" (top 35) f fd) (B : Bi mg) (C : Co mg) (G : Fn P w K mg base k "_law_taken" ["_law_row", "_law_many"] (spTaken K)) : FnOk P w K mg base CX0 (k + 1) f fd ["_law_row", "_law_high", "_law_wide", "_law_many"] (spTable K) := by
  refine F.ok sc__law_table (fun vs H Q E h => ?_) (fun cdv A outer s H vs Q E hr h => ?_)
  · obtain ⟨R, a, ns, _, _, _, rfl, _⟩ := h
    rfl
  obtain ⟨R, a, ns, m1, m2, m3, rfl, ok, ⟨a1, b1⟩, ⟨a2, b2⟩, ⟨a3, b3⟩, q⟩ := h
  refine ⟨_, d__law_table B C _ G hr, ?_⟩
  refine dr_asg2 (er_tup2 (er_add (er_taken (m := m1) rfl ⟨by omega, by omega⟩ fun H1 _ _ => ed_var rfl (.int _)) fun d h => h.elim fun n z => ⟨n, z.1⟩) (er_add (er_taken (m := m2) rfl ⟨by omega, by omega⟩ fun H1 _ _ => ed_var rfl (.int _)) fun d h => h.elim fun n z => ⟨n, z.1⟩) (fun d h => by obtain ⟨n, rfl, _⟩ := h; rfl)) ok (fun d h => by obtain ⟨d1, d2, z, _⟩ := h; exact ⟨d1, d2, z⟩) fun d1 d2 x y H1 e1 ok1 p hx hy => ?_
  obtain ⟨_, _, hd, ⟨n1, rfl, _, hn1, c1, c1'⟩, ⟨n2, rfl, _, hn2, c2, c2'⟩⟩ := p
  have hn1 := PyData.int.inj hn1
  have hn2 := PyData.int.inj hn2
  subst hn1 hn2
  simp only [PyData.tuple.injEq, List.cons.injEq, and_true] at hd
  obtain ⟨rfl, rfl⟩ := hd
  rw [dp_int hx, dp_int hy]
  refine dr_asg (er_add (er_taken (m := m3) rfl ⟨by omega, by omega⟩ fun H1 _ _ => ed_var rfl (.int _)) fun d h => h.elim fun n z => ⟨n, z.1⟩) ok1 fun v3 d3 H2 e2 ok2 p3 hv3 => ?_
  obtain ⟨n3, rfl, _, hn3, c3, c3'⟩ := p3
  have hn3 := PyData.int.inj hn3
  subst hn3
  rw [dp_int hv3]
  obtain ⟨N, hN⟩ : ∃ N : Nat, 1 + n1 = (N : Int) := ⟨(1 + n1).toNat, by omega⟩
  obtain ⟨M, hM⟩ : ∃ M : Nat, 1 + n2 = (M : Int) := ⟨(1 + n2).toNat, by omega⟩
  rw [hN, hM]
  refine dr_ret (er_tupleL (er_lcR (n := N) (P := fun d => ∃ ds, d = .tuple ds ∧ ∃ es, PyData.list ds = .list es ∧ es.length = M ∧ ∀ e ∈ es, NatB (1 + n3) e) (fun H3 _ _ => ea1 (ed_var rfl (.int _))) (fun _ => rfl) (by omega) (fun d h => ?_) fun i hi H3 e3 => er_tupleL (er_lcR (n := M) (P := NatB (1 + n3)) (fun H4 _ _ => ea1 (ed_var rfl (.int _))) (fun _ => rfl) (by omega) (fun d h => natB_noL h) fun i' hi' H4 e4 => er_taken (m := 1 + n3) rfl ⟨by omega, by omega⟩ fun H5 _ _ => ed_var rfl (.int _)) fun d h => h.elim fun ds z => ⟨ds, z.1⟩) fun d h => h.elim fun ds z => ⟨ds, z.1⟩) ok2 fun v5 d5 H5 e5 ok5 p5 hv5 => ?_
  · obtain ⟨ds, rfl, es, he, _, hes⟩ := h
    have he := PyData.list.inj he
    subst he
    have := noLs_map (f := id) (A := ds) fun e he => natB_noL (hes e he)
    rw [List.map_id] at this
    exact this
  · obtain ⟨ds, rfl, es, he, hl, hes⟩ := p5
    have he := PyData.list.inj he
    subst he
    obtain ⟨t, rfl, ht⟩ := pick_list (enc := rowD) (p := fun r => r.length = M ∧ ∀ x ∈ r, 0 ≤ x ∧ x ≤ 99) fun e he => by
      obtain ⟨ds', rfl, es', he', hl', hes'⟩ := hes e he
      have he' := PyData.list.inj he'
      subst he'
      obtain ⟨r, rfl, hr⟩ := pick_list (enc := PyData.int) (p := fun x => 0 ≤ x ∧ x ≤ 99) fun e he => by
        obtain ⟨n, rfl, z0, z1⟩ := hes' e he
        exact ⟨n, rfl, z0, by omega⟩
      rw [List.length_map] at hl'
      exact ⟨r, rfl, hl', hr⟩
    rw [List.length_map] at hl
    refine q ⟨t, N, M⟩ v5 H5 ⟨hl, fun r hr => (ht r hr).1, ?_, ?_, ?_, ?_, fun r hr => (ht r hr).2⟩ ((e1.trans e2).trans e5) ok5 hv5
    · show 1 ≤ N
      omega
    · show N ≤ 6
      omega
    · show 1 ≤ M
      omega
    · show M ≤ 6
      omega
end
end K15
namespace K15
open PySem L2 Evl
def natVs (A : List Nat) : List V := A.map fun x => V.int (x : Nat)
/-- a list of lists that are all new -/
structure HpAt (H0 H : Hp) (L : Addr) (ls : List Addr) (As : List (List Nat)) : Prop where
  new : H0 L = none
  here : H L = some (.lst (ls.map V.ref))
  len : ls.length = As.length
  nd : ls.Nodup
  out : L ∉ ls
  news : ∀ l ∈ ls, H0 l = none
  each : ∀ (j : Nat) (l : Addr) (A : List Nat), ls[j]? = some l → As[j]? = some A → H l = some (.lst (natVs A))
/-- how the things lie when i of them are dealt -/
structure Dealt (T : List Nat) (i : Nat) (As : List (List Nat)) : Prop where
  three : As.length = 3
  sum : (As.map List.length).sum = i
  cov : ∀ x ∈ T.take i, ∃ A ∈ As, x ∈ A
  sub : ∀ A ∈ As, ∀ x ∈ A, x ∈ T
  first : 1 ≤ i → ∃ A, As[0]? = some A ∧ A ≠ []
  second : 2 ≤ i → ∃ A, As[1]? = some A ∧ A ≠ []
structure HeapsOk (T : List Nat) (Hs : List (List Nat)) : Prop where
  each : ∀ A ∈ Hs, A ≠ [] ∧ A.length < T.length ∧ ∀ x ∈ A, x ∈ T
  cov : ∀ x ∈ T, ∃ A ∈ Hs, x ∈ A
  sum : (Hs.map List.length).sum = T.length
theorem le_sum_of : ∀ {l : List Nat} {x : Nat}, x ∈ l → x ≤ l.sum
  | [], _, h => by cases h
  | y :: l, x, h => by
    rw [List.sum_cons]
    (rcases List.mem_cons.mp h with rfl | h)
    · exact Nat.le_add_right _ _
    · exact Nat.le_trans (le_sum_of h) (Nat.le_add_left _ _)
theorem sum_put : ∀ (As : List (List Nat)) (k : Nat) (A : List Nat) (t : Nat), As[k]? = some A → ((As.set k (A ++ [t])).map List.length).sum = (As.map List.length).sum + 1
  | [], _, _, _, h => (by simp at h)
  | B :: As, 0, A, t, h => by
    have e : B = A := Option.some.inj h
    subst e
    simp
    omega
  | B :: As, k + 1, A, t, h => by
    have := sum_put As k A t (by simpa using h)
    simp only [List.set_cons_succ, List.map_cons, List.sum_cons, this]
    omega
theorem Dealt.put {T : List Nat} {i k t : Nat} {As : List (List Nat)} {A : List Nat} (d : Dealt T i As) (ht : T[i]? = some t) (hk : As[k]? = some A) (h0 : i < 2 → k = i) : Dealt T (i + 1) (As.set k (A ++ [t])) where
  three := by rw [List.length_set]; exact d.three
  sum := by rw [sum_put As k A t hk, d.sum]
  cov := fun x hx => by
    obtain ⟨hlt, _⟩ := List.getElem?_eq_some_iff.mp hk
    rw [take_snoc ht, List.mem_append, List.mem_singleton] at hx
    rcases hx with hx | rfl
    · obtain ⟨B, hB, hxB⟩ := d.cov x hx
      obtain ⟨j, hj⟩ := List.getElem?_of_mem hB
      by_cases c : k = j
      · subst c
        rw [hk] at hj
        have e := Option.some.inj hj
        subst e
        exact ⟨A ++ [t], List.mem_iff_getElem?.mpr ⟨k, by rw [List.getElem?_set_self hlt]⟩, List.mem_append_left _ hxB⟩
      · exact ⟨B, List.mem_iff_getElem?.mpr ⟨j, by rw [List.getElem?_set_ne c]; exact hj⟩, hxB⟩
    · exact ⟨A ++ [x], List.mem_iff_getElem?.mpr ⟨k, by rw [List.getElem?_set_self hlt]⟩, List.mem_append_right _ (List.mem_singleton.mpr rfl)⟩
  sub := fun B hB x hx => by
    rcases List.mem_or_eq_of_mem_set hB with z | z
    · exact d.sub B z x hx
    · rw [z, List.mem_append, List.mem_singleton] at hx
      rcases hx with hx | rfl
      · exact d.sub A (List.mem_of_getElem? hk) x hx
      · exact List.mem_of_getElem? ht
  first := fun _ => by
    obtain ⟨hlt, _⟩ := List.getElem?_eq_some_iff.mp hk
    by_cases c : k = 0
    · subst c
      exact ⟨A ++ [t], by rw [List.getElem?_set_self hlt], by simp⟩
    · rw [List.getElem?_set_ne c]
      by_cases c2 : i < 2
      · refine d.first ?_
        have := h0 c2
        omega
      · exact d.first (by omega)
  second := fun h2 => by
    obtain ⟨hlt, _⟩ := List.getElem?_eq_some_iff.mp hk
    by_cases c : k = 1
    · subst c
      exact ⟨A ++ [t], by rw [List.getElem?_set_self hlt], by simp⟩
    · rw [List.getElem?_set_ne c]
      by_cases c2 : i < 2
      · have := h0 c2
        omega
      · exact d.second (by omega)
theorem Dealt.done {T : List Nat} {As : List (List Nat)} (d : Dealt T T.length As) (h2 : 2 ≤ T.length) : HeapsOk T (As.filter fun A => !A.isEmpty) := by
  obtain ⟨A0, h0, n0⟩ := d.first (by omega)
  obtain ⟨A1, h1, n1⟩ := d.second h2
  match As, d with
  | [B0, B1, B2], d =>
    have e0 : B0 = A0 := Option.some.inj h0
    have e1 : B1 = A1 := Option.some.inj h1
    subst e0 e1
    have p0 := List.length_pos_iff.mpr n0
    have p1 := List.length_pos_iff.mpr n1
    have sm := d.sum
    simp only [List.map_cons, List.map_nil, List.sum_cons, List.sum_nil] at sm
    refine ⟨fun A hA => ?_, fun x hx => ?_, ?_⟩
    · obtain ⟨hA, hne⟩ := List.mem_filter.mp hA
      refine ⟨fun z => (by rw [z] at hne; cases hne), ?_, d.sub A hA⟩
      simp only [List.mem_cons, List.not_mem_nil, or_false] at hA
      rcases hA with rfl | rfl | rfl <;> omega
    · rw [← List.take_length (l := T)] at hx
      obtain ⟨A, hA, hxA⟩ := d.cov x hx
      exact ⟨A, List.mem_filter.mpr ⟨hA, by cases A <;> simp at hxA ⊢⟩, hxA⟩
    · have e0' : B0.isEmpty = false := by cases B0 <;> simp at n0 ⊢
      have e1' : B1.isEmpty = false := by cases B1 <;> simp at n1 ⊢
      rw [List.filter_cons, List.filter_cons, List.filter_cons, List.filter_nil, e0', e1']
      cases c : B2.isEmpty with
      | true =>
        have : B2 = [] := List.isEmpty_iff.mp c
        subst this
        simp at sm ⊢
        omega
      | false =>
        simp
        omega
  | [], d => exact absurd d.three (by decide)
  | [_], d => exact absurd d.three (by simp)
  | [_, _], d => exact absurd d.three (by simp)
  | _ :: _ :: _ :: _ :: _, d => exact absurd d.three (by simp)
section
variable {K : PySem.W.Frag} {σ : L2.St} {H H0 H1 H' : Hp} {R a L : Addr} {ls : List Addr} {As : List (List Nat)} {ns : List Int} {D : Ends}
theorem HpAt.exs (h : HpAt H0 H L ls As) (e : Exs [R] H H') (hR : H0 R ≠ none) : HpAt H0 H' L ls As where
  new := h.new
  here := e L _ (fun z => hR (by rw [← List.mem_singleton.mp z]; exact h.new)) h.here
  len := h.len
  nd := h.nd
  out := h.out
  news := h.news
  each := fun j l A hl hA => e l _ (fun z => hR (by rw [← List.mem_singleton.mp z]; exact h.news l (List.mem_of_getElem? hl))) (h.each j l A hl hA)
theorem HpAt.put (h : HpAt H0 H L ls As) {k t : Nat} {l : Addr} {A : List Nat} (hl : ls[k]? = some l) (hA : As[k]? = some A) : HpAt H0 (upd H l (.lst (natVs A ++ [.int (t : Nat)]))) L ls (As.set k (A ++ [t])) where
  new := h.new
  here := by
    rw [upd_ne (fun z => h.out (by rw [z]; exact List.mem_of_getElem? hl))]
    exact h.here
  len := by rw [List.length_set]; exact h.len
  nd := h.nd
  out := h.out
  news := h.news
  each := fun j l' A' hl' hA' => by
    by_cases c : k = j
    · subst c
      obtain ⟨hlt, _⟩ := List.getElem?_eq_some_iff.mp hA
      rw [List.getElem?_set_self hlt] at hA'
      have e := Option.some.inj hA'
      subst e
      rw [hl] at hl'
      have e := Option.some.inj hl'
      subst e
      rw [upd_same, natVs, natVs, List.map_append]
      rfl
    · rw [List.getElem?_set_ne c] at hA'
      rw [upd_ne (fun z => c ?_)]
      · exact h.each j l' A' hl' hA'
      · subst z
        obtain ⟨p1, q1⟩ := List.getElem?_eq_some_iff.mp hl
        obtain ⟨p2, q2⟩ := List.getElem?_eq_some_iff.mp hl'
        exact (List.getElem_inj h.nd).mp (q1.trans q2.symm)
def lnD (A : List Nat) : PyData := .list (A.map natD)
theorem dps_heaps : ∀ {ls : List Addr} {As : List (List Nat)}, ls.length = As.length → (∀ (j : Nat) (l : Addr) (A : List Nat), ls[j]? = some l → As[j]? = some A → H l = some (.lst (natVs A))) → DpAll K H (ls.map V.ref) (As.map lnD)
  | [], [], _, _ => .nil
  | [], _ :: _, h, _ => (by simp at h)
  | _ :: _, [], h, _ => (by simp at h)
  | l :: ls, A :: As, h, e => .cons (.lst (sq_of (e 0 l A rfl rfl)) (dps_nats A)) (dps_heaps (by simpa using h) fun j l' A' h1 h2 => e (j + 1) l' A' (by simpa using h1) (by simpa using h2))
theorem HpAt.dp (h : HpAt H0 H L ls As) : Dp K H (.ref L) (.list (As.map lnD)) := .lst (sq_of h.here) (dps_heaps h.len h.each)
/-- [[] for _ in range(3)] -/
theorem go_heaps {t : TA} {j : Nat} {vs : List Nat} (h : EdA K t σ H [.int 3]) (hw : ∀ x, wipe ((wipe σ vs).set j (some x)) vs = wipe σ vs) {Q : VK} (k : ∀ L ls H1, Ex H H1 → HpAt H H1 L ls [[], [], []] → Q (.ref L) H1) :
    tLc (iRng1 t) (gName j) tYes (tLst tNil) vs σ H Q := h H (Ex.refl H) _ fun v H1 e1 hv => by
  obtain ⟨w, rfl, hw'⟩ := dps_1 hv
  have ew := dp_int hw'
  subst ew
  refine ⟨3, rfl, by omega, by omega, fun Dl hD => lc_range (lo := 0) (n := (3 : Int).toNat) (fun i H' => Ex H H' ∧ Ex H1 H' ∧ ∃ ls, HpAt H H' Dl ls (List.replicate i [])) ⟨e1.trans (Ex.new hD), Ex.new hD, [], fresh_back e1 hD, upd_same, rfl, List.nodup_nil, fun z => (by cases z), fun _ z => (by cases z), fun j l A z => (by cases z)⟩ (fun i H' hi c => ?_) fun H' c => ?_⟩
  · obtain ⟨c1, c2, ls, c3⟩ := c
    refine ⟨hw _, of_yes ?_⟩
    rw [if_pos rfl]
    (refine ⟨Nat.zero_le _, fun l hl => ?_⟩)
    have hlD : l ≠ Dl := fun z => by
      rw [z, c3.here] at hl
      cases hl
    have hll : l ∉ ls := fun z => by
      obtain ⟨j, hj⟩ := List.getElem?_of_mem z
      obtain ⟨hjl, _⟩ := List.getElem?_eq_some_iff.mp hj
      have hjA : j < (List.replicate i ([] : List Nat)).length := by rw [← c3.len]; exact hjl
      rw [c3.each j l _ hj (List.getElem?_eq_getElem hjA)] at hl
      cases hl
    have lH : H l = none := fresh_back c1 hl
    have e3 : Ex H' (upd H' l (.lst [])) := Ex.new hl
    refine ⟨ls.map V.ref, e3 _ _ c3.here, ?_, Ex.mut (c1.trans e3) c3.new, Ex.mut (c2.trans e3) hD, ls ++ [l], c3.new, ?_, ?_, ?_, ?_, ?_, ?_⟩
    · have := c3.len
      rw [List.length_replicate] at this
      rw [List.length_map]
      exact sz_lt (by have : i < 3 := hi; omega)
    · rw [upd_same, List.map_append]
      rfl
    · rw [List.length_append, c3.len, List.length_replicate, List.length_replicate]
      rfl
    · rw [List.nodup_append]
      refine ⟨c3.nd, by simp, fun x hx y hy => ?_⟩
      rw [List.mem_singleton.mp hy]
      exact fun z => hll (by rw [← z]; exact hx)
    · rw [List.mem_append, List.mem_singleton]
      rintro (z | z)
      · exact c3.out z
      · exact hlD z.symm
    · intro l' hl'
      rcases List.mem_append.mp hl' with z | z
      · exact c3.news l' z
      · (rw [List.mem_singleton.mp z])
        exact lH
    · intro j l' A hl' hA
      have hA0 : A = [] := by
        have := List.mem_of_getElem? hA
        exact (List.mem_replicate.mp this).2
      subst hA0
      rcases List.mem_append.mp (List.mem_of_getElem? hl') with z | z
      · obtain ⟨j', hj'⟩ := List.getElem?_of_mem z
        obtain ⟨hjl, _⟩ := List.getElem?_eq_some_iff.mp hj'
        have hjA : j' < (List.replicate i ([] : List Nat)).length := by rw [← c3.len]; exact hjl
        have hq := c3.each j' l' _ hj' (List.getElem?_eq_getElem hjA)
        rw [List.getElem_replicate] at hq
        rw [upd_ne (fun q => c3.out (by rw [← q]; exact z))]
        exact e3 _ _ hq
      · rw [List.mem_singleton.mp z, upd_ne hlD, upd_same]
        rfl
  · obtain ⟨c1, c2, ls, c3⟩ := c
    exact k Dl ls H' c1 c3
theorem dq_heaps {t : TA} {i j : Nat} {vs : List Nat} {tz : L2.TS} (h : EdA K t σ H [.int 3]) (hw : ∀ x, wipe ((wipe σ vs).set j (some x)) vs = wipe σ vs) (k : ∀ L ls H1, Ex H H1 → HpAt H H1 L ls [[], [], []] → tz D (σ.set i (some (.ref L))) H1) :
    tSeq (tAsg (tLc (iRng1 t) (gName j) tYes (tLst tNil) vs) (gName i)) tz D σ H := go_heaps (Q := fun x H1 => tz D (σ.set i (some x)) H1) h hw k
end
section
variable {P : Program} {w : World} {K : PySem.W.Frag} {mg : Str → Option Value} {base : Heap} {f : Addr} {fd : FuncData} {k : Nat}
def spHeaps (K : PySem.W.Frag) : Sp := fun vs H Q _ => ∃ (R a : Addr) (ns : List Int) (v : V) (T : List Nat), vs = [.ref R, v, .int 3] ∧ RowOk K H R a ns ∧ Dp K H v (natsD T) ∧ (2 ≤ T.length ∧ T.length ≤ 6) ∧
  ∀ Hs u H', Exs [R] H H' → RowOk K H' R a ns → Dp K H' u (.list (Hs.map natsD)) → HeapsOk T Hs → Q u H'
theorem ok__law_heaps (F : Fun K "_law_heaps" "_law_heaps" (top 41) f fd) (B : Bi mg) (C : Co mg) (G : Fn P w K mg base k "_law_taken" ["_law_row", "_law_many"] (spTaken K)) : FnOk P w K mg base CX0 (k + 1) f fd ["_law_row", "_law_things", "_law_most"] (spHeaps K) := by
  refine F.ok sc__law_heaps (fun vs H Q E h => ?_) (fun cdv A outer s H vs Q E hr h => ?_)
  · obtain ⟨R, a, ns, v, T, rfl, _⟩ := h
    rfl
  obtain ⟨R, a, ns, v, T, rfl, ok, hv, ⟨t2, t6⟩, q⟩ := h
  refine ⟨_, d__law_heaps B C _ G hr, ?_⟩
  refine dq_heaps (K := K) (ea1 (ed_var rfl (.int 3))) (fun _ => rfl) fun L ls H1 e1 hp1 => ?_
  obtain ⟨tA, xs, rfl, hs, hd⟩ := dp_tup hv
  have ex := dps_nat hd
  subst ex
  refine ⟨.ref tA, rfl, tA, _, rfl, ex_t e1 hs, for_it (walk_enumT (K := K) (a := tA) (xs := T.map fun i => V.int (i : Nat))) (fun i σ' H' => ∃ (y4 y5 : Option V) (As : List (List Nat)), σ' = [some (.ref R), some (.ref tA), some (.int 3), some (.ref L), y4, y5, none] ∧ Exs [R] H H' ∧ RowOk K H' R a ns ∧ HpAt H H' L ls As ∧ Dealt T i As)
    ⟨none, none, _, rfl, Exs.of e1, ok.ex e1, hp1, rfl, rfl, fun x hx => by simp at hx, fun A hA x hx => ?_, fun z => absurd z (by omega), fun z => absurd z (by omega)⟩ (fun i σ' H' _ c => ?_) (fun i x σ' H2 H3 hi c y => ?_) fun σ' H' c => ?_⟩
  · simp only [List.mem_cons, List.not_mem_nil, or_false] at hA
    rcases hA with rfl | rfl | rfl <;> cases hx
  · obtain ⟨_, _, _, _, e, _⟩ := c
    exact ts_t (ok.tst e) hs
  · obtain ⟨y4, y5, As, rfl, e, ok2, hp, dl⟩ := c
    obtain ⟨Ta, x1, y1, rfl, hT, rfl, h1, h2⟩ := y
    have h1 := Option.some.inj h1
    subst h1
    have h2 : (T.map fun i => V.int (i : Nat))[i]? = some y1 := h2
    rw [List.getElem?_map, Option.map_eq_some_iff] at h2
    obtain ⟨t, ht, rfl⟩ := h2
    have eT : Ex H2 (upd H2 Ta (.tup [.int (i : Nat), .int (t : Nat)])) := Ex.new hT
    refine ⟨Ta, _, rfl, st_of upd_same, rfl, _, [_], rfl, _, [], rfl, rfl, ?_⟩
    have e3 := e.trans (Exs.of eT)
    have ok3 := ok2.ex eT
    have hp3 := hp.exs (R := R) (Exs.of eT) ok.some
    generalize upd H2 Ta (.tup [.int (i : Nat), .int (t : Nat)]) = H3 at e3 ok3 hp3 ⊢
    -- the place
    have place : ∀ (kk : Nat) H4, Exs [R] H3 H4 → RowOk K H4 R a ns → kk < 3 → (i < 2 → kk = i) → rIxL K (.ref L) (.int (kk : Nat)) H4 fun x H5 => tyV K "list" x H5 ∧ tCons (tVar 5) tNil ([some (.ref R), some (.ref tA), some (.int 3), some (.ref L), some (.int (i : Nat)), some (.int (t : Nat)), none]) H5 fun xs H6 => rAppend x xs H6 fun _ H7 => ∃ (y4 y5 : Option V) (As : List (List Nat)), ([some (.ref R), some (.ref tA), some (.int 3), some (.ref L), some (.int (i : Nat)), some (.int (t : Nat)), none] : L2.St) = [some (.ref R), some (.ref tA), some (.int 3), some (.ref L), y4, y5, none] ∧ Exs [R] H H7 ∧ RowOk K H7 R a ns ∧ HpAt H H7 L ls As ∧ Dealt T (i + 1) As := by
      intro kk H4 e4 ok4 hk h0
      have hp4 := hp3.exs e4 ok.some
      have hkA : kk < As.length := by rw [dl.three]; exact hk
      have hkl : kk < ls.length := by rw [hp4.len]; exact hkA
      have hl := List.getElem?_eq_getElem hkl
      have hA := List.getElem?_eq_getElem hkA
      have hH := hp4.each kk _ _ hl hA
      refine ⟨L, ls.map V.ref, (kk : Nat), .ref ls[kk], rfl, rfl, sq_of hp4.here, atI_map hl, Or.inl ⟨rfl, _, sq_of hH⟩, _, rfl, ls[kk], natVs As[kk], .int (t : Nat), rfl, rfl, hH, ?_, ?_⟩
      · have h3 : As[kk].length ≤ T.length := by
          have := List.length_pos_of_mem (List.mem_of_getElem? ht)
          have hi' : i < T.length := (List.getElem?_eq_some_iff.mp ht).1
          have hsum := dl.sum
          have : As[kk].length ≤ (As.map List.length).sum := le_sum_of (List.mem_map.mpr ⟨_, List.getElem_mem hkA, rfl⟩)
          omega
        rw [natVs, List.length_map]
        exact sz_lt (by omega)
      · have hn := hp4.news ls[kk] (List.getElem_mem hkl)
        have x7 : Exs [R] H (upd H4 ls[kk] (.lst (natVs As[kk] ++ [.int (t : Nat)]))) := fun b o n hb => by
          rw [upd_ne (fun z => by rw [z, hn] at hb; cases hb)]
          exact (e3.trans e4) b o n hb
        refine ⟨_, _, _, rfl, x7, ok.to x7 ?_, hp4.put hl hA, dl.put ht hA h0⟩
        obtain ⟨p, s', h', hR, hp'⟩ := ok4.row
        refine ⟨p, s', h', ?_, hp'⟩
        rw [upd_ne (fun z => ok.some (by rw [z]; exact hn))]
        exact hR
    refine ⟨.ref L, rfl, ?_⟩
    refine t_go (b := decide ((i : Int) < 2)) (et_testd (K := K) (ed_I0 (i := (i : Nat)) (j := 2) (ed_var rfl (.int _)) ed_int fun _ => .bl _)) fun H4 e4 => ?_
    by_cases c : (i : Int) < 2
    · rw [decide_eq_true c, if_pos rfl]
      exact ⟨_, rfl, place i H4 (Exs.of e4) (ok3.ex e4) (by omega) fun _ => rfl⟩
    · rw [decide_eq_false c, if_neg (by decide)]
      refine er_taken (m := 3) rfl ⟨by decide, by decide⟩ (fun H5 _ _ => ed_var rfl (.int 3)) H4 (Exs.refl _ _) (ok3.ex e4) _ fun u d H5 e5 ok5 p hu => ?_
      obtain ⟨n, rfl, n0, n1⟩ := p
      rw [dp_int hu]
      have en : n = ((n.toNat : Nat) : Int) := by omega
      rw [en]
      exact place n.toNat H5 ((Exs.of e4).trans e5) ok5 (by omega) fun z => absurd z (by omega)
  · obtain ⟨y4, y5, As, rfl, e, ok2, hp, dl⟩ := c
    rw [List.length_map] at dl
    refine d_ret (K := K) (ed_lcL (A := As) (enc := lnD) (p := fun A => !A.isEmpty) (f := natsD) (ed_var rfl hp.dp) (fun _ => rfl) (by rw [dl.three]; decide) (fun _ _ => noL_nats _) (fun A hA u H3 e3 hu => ?_) fun A hA _ u H3 e3 hu => ed_tupleL (ed_var rfl hu)) fun u H3 e3 hu => q _ u H3 (e.trans (Exs.of e3)) (ok2.ex e3) hu (dl.done t2)
    refine et_testd (K := K) ((ed_notNil (ed_var rfl hu) (shaped_lnats _)).is ?_)
    rw [List.isEmpty_map]
end
end K15
namespace K15
open PySem L2 Evl
def ck (x y : Nat) : List Key := [Sum.inl (x : Int), Sum.inl (y : Int)]
def In (kvs : List (List Key × V)) (m : Nat) (x y : Nat) : Prop := ∃ v : Int, valV kvs (ck x y) = some (.int v) ∧ 0 ≤ v ∧ v < m
structure Grew (kvs : List (List Key × V)) (m : Nat) (kvs' : List (List Key × V)) (m' : Nat) (b : Nat) (cov : Nat → Nat → Prop) : Prop where
  up : m ≤ m'
  few : m' ≤ m + b
  size : kvs'.length ≤ kvs.length + b
  cov : ∀ x y, cov x y → In kvs' m' x y
  keep : ∀ x y, In kvs m x y → In kvs' m' x y
theorem Grew.trans {k1 k2 k3 : List (List Key × V)} {m1 m2 m3 b1 b2 : Nat} {c1 c2 : Nat → Nat → Prop} (h : Grew k1 m1 k2 m2 b1 c1) (g : Grew k2 m2 k3 m3 b2 c2) : Grew k1 m1 k3 m3 (b1 + b2) fun x y => c1 x y ∨ c2 x y where
  up := Nat.le_trans h.up g.up
  few := by
    have := h.few
    have := g.few
    omega
  size := by
    have := h.size
    have := g.size
    omega
  cov := fun x y c => c.elim (fun z => g.keep x y (h.cov x y z)) fun z => g.cov x y z
  keep := fun x y z => g.keep x y (h.keep x y z)
theorem Grew.imp {k1 k2 : List (List Key × V)} {m1 m2 b b' : Nat} {c c' : Nat → Nat → Prop} (h : Grew k1 m1 k2 m2 b c) (hb : b = b') (hc : ∀ x y, c' x y → c x y) : Grew k1 m1 k2 m2 b' c' := by
  subst hb
  exact ⟨h.up, h.few, h.size, fun x y z => h.cov x y (hc x y z), h.keep⟩
/-- the row, the cells, the free numbers -/
structure Wv (K : PySem.W.Frag) (H : Hp) (R a : Addr) (ns : List Int) (c fr : Addr) (kvs : List (List Key × V)) (m : Nat) : Prop where
  row : RowOk K H R a ns
  dic : H c = some (.dT kvs)
  fre : ∃ xs : List Int, H fr = some (.lst (xs.map V.int)) ∧ xs.length = m
  sep : a ≠ fr ∨ ∀ H' : Hp, SqL K H' a (ns.map V.int)
section
variable {K : PySem.W.Frag} {σ : L2.St} {H H0 H1 H' : Hp} {R a c fr : Addr} {ns : List Int} {kvs kvs' : List (List Key × V)} {m m' : Nat} {ta tb tc te tl tk tv : TE} {D : Ends} {tu tz : L2.TS}
theorem Wv.ne (w : Wv K H R a ns c fr kvs m) : fr ≠ R ∧ c ≠ R ∧ c ≠ fr := by
  obtain ⟨p, s, h, hR, _⟩ := w.row.row
  obtain ⟨xs, hf, _⟩ := w.fre
  refine ⟨fun z => ?_, fun z => ?_, fun z => ?_⟩
  · rw [z, hR] at hf
    have := HO.lst.inj (Option.some.inj hf)
    cases xs <;> simp at this
  · have := w.dic
    rw [z, hR] at this
    cases this
  · have := w.dic
    rw [z, hf] at this
    cases this
theorem Wv.tst (w : Wv K H R a ns c fr kvs m) (e : Exs [R, c, fr] H H') : Tst H H' := fun b o h f => e b o (fun z => by
  obtain ⟨p, s, h', hR, _⟩ := w.row.row
  obtain ⟨xs, hf, _⟩ := w.fre
  have hd := w.dic
  simp only [List.mem_cons, List.not_mem_nil, or_false] at z
  rcases z with rfl | rfl | rfl
  · rw [hR] at h
    have := Option.some.inj h
    subst this
    cases f
  · rw [hd] at h
    have := Option.some.inj h
    subst this
    cases f
  · rw [hf] at h
    have := Option.some.inj h
    subst this
    cases f) h
theorem Wv.ex (w : Wv K H R a ns c fr kvs m) (e : Ex H H1) : Wv K H1 R a ns c fr kvs m := by
  obtain ⟨xs, hf, hl⟩ := w.fre
  exact ⟨w.row.ex e, e _ _ w.dic, ⟨xs, e _ _ hf, hl⟩, w.sep⟩
/-- the row turned alone -/
theorem Wv.turn (w : Wv K H R a ns c fr kvs m) (e : Exs [R] H H1) (ok : RowOk K H1 R a ns) : Wv K H1 R a ns c fr kvs m := by
  obtain ⟨xs, hf, hl⟩ := w.fre
  obtain ⟨n1, n2, n3⟩ := w.ne
  exact ⟨ok, e _ _ (fun z => n2 (List.mem_singleton.mp z)) w.dic, ⟨xs, e _ _ (fun z => n1 (List.mem_singleton.mp z)) hf, hl⟩, w.sep⟩
theorem Exs.wide (e : Exs [R] H H1) : Exs [R, c, fr] H H1 := e.mono fun x hx => by
  rw [List.mem_singleton.mp hx]
  exact List.mem_cons_self
theorem Wv.put (w : Wv K H R a ns c fr kvs m) : Wv K (upd H c (.dT kvs')) R a ns c fr kvs' m := by
  obtain ⟨xs, hf, hl⟩ := w.fre
  obtain ⟨n1, n2, n3⟩ := w.ne
  obtain ⟨p, s, h', hR, hp⟩ := w.row.row
  refine ⟨⟨⟨p, s, h', by rw [upd_ne (fun z => n2 z.symm)]; exact hR, hp⟩, ?_, w.row.few⟩, upd_same, ⟨xs, by rw [upd_ne (fun z => n3 z.symm)]; exact hf, hl⟩, w.sep⟩
  rcases w.row.scr with (h | ⟨o, h⟩) | h
  · refine .inl (.inl ?_)
    rw [upd_ne (fun z => by rw [z, w.dic] at h; cases h)]
    exact h
  · refine .inl (.inr ⟨o, ?_⟩)
    rw [upd_ne (fun z => by rw [z, w.dic] at h; cases h)]
    exact h
  · exact .inr h
theorem Wv.app (w : Wv K H R a ns c fr kvs m) {xs : List Int} (hx : xs.length = m') : Wv K (upd H fr (.lst (xs.map V.int))) R a ns c fr kvs m' := by
  obtain ⟨n1, n2, n3⟩ := w.ne
  obtain ⟨p, s, h', hR, hp⟩ := w.row.row
  refine ⟨⟨⟨p, s, h', by rw [upd_ne (fun z => n1 z.symm)]; exact hR, hp⟩, ?_, w.row.few⟩, by rw [upd_ne n3]; exact w.dic, ⟨xs, upd_same, hx⟩, w.sep⟩
  rcases w.sep with hne | hk
  · rcases w.row.scr with (h | ⟨o, h⟩) | h
    · refine .inl (.inl ?_)
      rw [upd_ne hne]
      exact h
    · refine .inl (.inr ⟨o, ?_⟩)
      rw [upd_ne hne]
      exact h
    · exact .inr h
  · exact hk _
/-- a list of tuples is none of the three -/
theorem sql_exs (w : Wv K H R a ns c fr kvs m) (e : Exs [R, c, fr] H H') {l : Addr} {xs : List V} {Hs : List (List Nat)} (hne : Hs ≠ []) (hs : SqL K H l xs) (hd : DpAll K H xs (Hs.map natsD)) : SqL K H' l xs := by
  obtain ⟨p, s, h', hR, _⟩ := w.row.row
  obtain ⟨fs, hf, _⟩ := w.fre
  have hdi := w.dic
  have no : ∀ (j : Nat) (n : Int), xs[j]? = some (.int n) → False := fun j n hj => by
    obtain ⟨d, hd1, hd2⟩ := dps_get' hd hj
    rw [List.getElem?_map, Option.map_eq_some_iff] at hd1
    obtain ⟨l', _, rfl⟩ := hd1
    cases hd2
  have n0 : xs ≠ [] := fun z => by
    have := dps_len hd
    rw [z, List.length_map] at this
    exact hne (List.length_eq_zero_iff.mp this.symm)
  rcases hs with (hs | ⟨o, hs⟩) | hs
  · refine .inl (.inl (e l _ (fun z => ?_) hs))
    simp only [List.mem_cons, List.not_mem_nil, or_false] at z
    rcases z with rfl | rfl | rfl
    · rw [hR] at hs
      have ex := HO.lst.inj (Option.some.inj hs)
      subst ex
      exact no 1 p rfl
    · rw [hdi] at hs
      cases hs
    · rw [hf] at hs
      have ex := HO.lst.inj (Option.some.inj hs)
      subst ex
      cases fs with
      | nil => exact n0 rfl
      | cons x r => exact no 0 x rfl
  · refine .inl (.inr ⟨o, e l _ (fun z => ?_) hs⟩)
    simp only [List.mem_cons, List.not_mem_nil, or_false] at z
    rcases z with rfl | rfl | rfl
    · rw [hR] at hs
      cases hs
    · rw [hdi] at hs
      cases hs
    · rw [hf] at hs
      cases hs
  · exact .inr hs
/-- the walk over the heaps -/
theorem wv_for {σf : Option V → L2.St} {y0 : Option V} {T : List Nat} {q : Nat} {cov : List Nat → Nat → Nat → Prop} (w : Wv K H R a ns c fr kvs m) (hb : kvs.length + T.length * q ≤ 1000 ∧ m + T.length * q ≤ 1000) (hT : T ≠ [])
    (h : ∀ Q : VK, (∀ Hs v H1, Exs [R] H H1 → RowOk K H1 R a ns → Dp K H1 v (.list (Hs.map natsD)) → HeapsOk T Hs → Q v H1) → tl (σf y0) H Q)
    (hset : ∀ y u, (σf y).set 6 (some u) = σf (some u))
    (step : ∀ A u H' kvs' m', A ≠ [] → A.length < T.length → (∀ x ∈ A, x ∈ T) → Dp K H' u (natsD A) → Exs [R, c, fr] H H' → Wv K H' R a ns c fr kvs' m' → kvs'.length + A.length * q ≤ 1000 → m' + A.length * q ≤ 1000 →
      ∀ D' : Ends, (∀ H'' kvs'' m'', Exs [R, c, fr] H' H'' → Wv K H'' R a ns c fr kvs'' m'' → Grew kvs' m' kvs'' m'' (A.length * q) (cov A) → D'.nx (σf (some u)) H'') → tu D' (σf (some u)) H')
    (fin : ∀ Hs y H' kvs' m', HeapsOk T Hs → Exs [R, c, fr] H H' → Wv K H' R a ns c fr kvs' m' → Grew kvs m kvs' m' (T.length * q) (fun x y => ∃ A ∈ Hs, cov A x y) → D.nx (σf y) H') :
    tFor (iList K tl) (gName 6) tu D (σf y0) H := h _ fun Hs v H1 e1 ok1 hv hh => by
  have w1 := w.turn e1 ok1
  have hne : Hs ≠ [] := fun z => by
    have := hh.sum
    rw [z] at this
    exact hT (List.length_eq_zero_iff.mp this.symm)
  obtain ⟨l, xs, rfl, hs, hd⟩ := dp_lst hv
  have hl : xs.length = Hs.length := by rw [dps_len hd, List.length_map]
  refine ⟨l, rfl, ⟨xs, hs⟩, for_list (xs := xs) (fun i σ' H' => ∃ y kvs' m', σ' = σf y ∧ Exs [R, c, fr] H1 H' ∧ Wv K H' R a ns c fr kvs' m' ∧ Grew kvs m kvs' m' (((Hs.take i).map List.length).sum * q) fun x y => ∃ A ∈ Hs.take i, cov A x y)
    ⟨y0, kvs, m, rfl, Exs.refl _ _, w1, Nat.le_refl _, Nat.le_add_right _ _, Nat.le_add_right _ _, fun x y ⟨A, hA, _⟩ => (by simp at hA), fun _ _ z => z⟩ (fun i σ' H' _ p => ?_) (fun i x σ' H' hi p => ?_) fun σ' H' p => ?_⟩
  · obtain ⟨_, _, _, _, e, _⟩ := p
    exact sql_exs w1 e hne hs hd
  · obtain ⟨y, kvs', m', rfl, e, w', g⟩ := p
    obtain ⟨A, hA, hx⟩ := dpAll_forall natsD hd hi
    have hAm : A ∈ Hs := List.mem_of_getElem? hA
    obtain ⟨z1, z2, z3⟩ := hh.each A hAm
    have sm : ((Hs.take (i + 1)).map List.length).sum = ((Hs.take i).map List.length).sum + A.length := by
      rw [take_snoc hA, List.map_append, List.sum_append]
      simp
    have sle : ((Hs.take (i + 1)).map List.length).sum ≤ T.length := by
      rw [← hh.sum]
      conv => rhs; rw [← List.take_append_drop (i + 1) Hs]
      rw [List.map_append, List.sum_append]
      omega
    have mle := Nat.mul_le_mul_right q sle
    rw [sm, Nat.add_mul] at mle
    have gs := g.size
    have gf := g.few
    show tu _ ((σf y).set 6 (some x)) H'
    rw [hset]
    refine step A x H' kvs' m' z1 z2 z3 (dp_ts (w1.tst e) _ _ (noL_nats _) hx) (e1.wide.trans e) w' (by omega) (by omega) _ fun H'' kvs'' m'' e2 w2 g2 => ⟨some x, kvs'', m'', rfl, e.trans e2, w2, (g.trans g2).imp ?_ fun x' y' hc => ?_⟩
    · rw [sm, Nat.add_mul]
    · obtain ⟨A', hA', hc⟩ := hc
      rw [take_snoc hA, List.mem_append, List.mem_singleton] at hA'
      rcases hA' with z | z
      · exact .inl ⟨A', z, hc⟩
      · rw [z] at hc
        exact .inr hc
  · obtain ⟨y, kvs', m', rfl, e, w', g⟩ := p
    rw [hl, List.take_length] at g
    rw [hh.sum] at g
    exact fin Hs y H' kvs' m' hh (e1.wide.trans e) w' g
end
end K15
namespace K15
open PySem L2 Evl
theorem in_put {kvs : List (List Key × V)} {m x y x' y' : Nat} (h : In kvs (m + 1) x' y') : In (putK kvs (ck x y) (.int (m : Nat))) (m + 1) x' y' := by
  obtain ⟨v, h1, h2, h3⟩ := h
  by_cases c : ck x' y' = ck x y
  · exact ⟨(m : Nat), by rw [valV_put, if_pos c], by omega, by omega⟩
  · exact ⟨v, by rw [valV_put, if_neg c]; exact h1, h2, h3⟩
theorem in_new {kvs : List (List Key × V)} {m x y : Nat} : In (putK kvs (ck x y) (.int (m : Nat))) (m + 1) x y := ⟨(m : Nat), by rw [valV_put, if_pos rfl], by omega, by omega⟩
theorem in_up {kvs : List (List Key × V)} {m m' x y : Nat} (h : In kvs m x y) (hm : m ≤ m') : In kvs m' x y := by
  obtain ⟨v, h1, h2, h3⟩ := h
  exact ⟨v, h1, h2, by omega⟩
section
variable {P : Program} {w : World} {K : PySem.W.Frag} {mg : Str → Option Value} {base : Heap} {f : Addr} {fd : FuncData} {k : Nat}
def spWoven (K : PySem.W.Frag) (N : Nat) : Sp := fun vs H Q _ => ∃ (R a : Addr) (ns : List Int) (c fr : Addr) (kvs : List (List Key × V)) (m : Nat) (vR vC : V) (rows cols : List Nat), vs = [.ref R, .ref c, vR, vC, .ref fr] ∧ Wv K H R a ns c fr kvs m ∧ Dp K H vR (natsD rows) ∧ Dp K H vC (natsD cols) ∧
  (rows ≠ [] ∧ cols ≠ [] ∧ rows.length ≤ 6 ∧ cols.length ≤ 6 ∧ rows.length + cols.length ≤ N) ∧ (kvs.length + rows.length * cols.length ≤ 1000 ∧ m + rows.length * cols.length ≤ 1000) ∧
  ∀ v H' kvs' m', Exs [R, c, fr] H H' → Wv K H' R a ns c fr kvs' m' → Grew kvs m kvs' m' (rows.length * cols.length) (fun x y => x ∈ rows ∧ y ∈ cols) → Q v H'
theorem woven_0 : FnOk P w K mg base CX0 0 f fd ["_law_row", "_law_table_here", "_law_rows", "_law_columns", "_law_free"] (spWoven K 0) := by
  have no : ∀ vs H Q E, ¬ spWoven K 0 vs H Q E := fun vs H Q E h => by
    obtain ⟨_, _, _, _, _, _, _, _, _, rows, cols, _, _, _, _, ⟨h1, _, _, _, h2⟩, _⟩ := h
    have := List.length_pos_iff.mpr h1
    omega
  (exact ⟨fun vs H Q E h => absurd h (no vs H Q E), fun A outer s H args us vs Q E _ _ _ _ h => absurd h (no vs H Q E)⟩)
theorem ok__law_woven {N : Nat} (F : Fun K "_law_woven" "_law_woven" (top 42) f fd) (B : Bi mg) (C : Co mg) (G1 : Fn P w K mg base k "_law_taken" ["_law_row", "_law_many"] (spTaken K)) (G2 : Fn P w K mg base k "_law_heaps" ["_law_row", "_law_things", "_law_most"] (spHeaps K))
    (G3 : Fn P w K mg base k "_law_woven" ["_law_row", "_law_table_here", "_law_rows", "_law_columns", "_law_free"] (spWoven K N)) : FnOk P w K mg base CX0 (k + 1) f fd ["_law_row", "_law_table_here", "_law_rows", "_law_columns", "_law_free"] (spWoven K (N + 1)) := by
  refine F.ok sc__law_woven (fun vs H Q E h => ?_) (fun cdv A outer s H vs Q E hr h => ?_)
  · obtain ⟨_, _, _, _, _, _, _, _, _, _, _, rfl, _⟩ := h
    rfl
  obtain ⟨R, a, ns, c, fr, kvs, m, vR, vC, rows, cols, rfl, wv, hR, hC, ⟨rne, cne, r6, c6, hN⟩, ⟨b1, b2⟩, q⟩ := h
  refine ⟨_, d__law_woven B C _ _ _ G1 G2 G3 hr, ?_⟩
  refine dr_asg (er_taken (m := 5) rfl ⟨by decide, by decide⟩ fun H1 _ _ => ed_int) wv.row fun v5 d H1 e1 ok1 p hv5 => ?_
  obtain ⟨n, rfl, n0, n1⟩ := p
  have ev := dp_int hv5
  subst ev
  have wv1 := wv.turn e1 ok1
  have x1 : Exs [R, c, fr] H H1 := e1.wide
  have hR1 := dp_ts (wv.tst x1) _ _ (noL_nats _) hR
  have hC1 := dp_ts (wv.tst x1) _ _ (noL_nats _) hC
  have lR : ∀ {σ : L2.St} {H2 : Hp}, σ[2]? = some (some vR) → Ex H1 H2 → Ed K (tCB (rLenS K) (tCons (tVar 2) tNil)) σ H2 (.int (rows.length : Nat)) := fun h e => (ed_lenT (ed_var h (dp_ex e _ _ hR1))).is (by rw [List.length_map])
  have lC : ∀ {σ : L2.St} {H2 : Hp}, σ[3]? = some (some vC) → Ex H1 H2 → Ed K (tCB (rLenS K) (tCons (tVar 3) tNil)) σ H2 (.int (cols.length : Nat)) := fun h e => (ed_lenT (ed_var h (dp_ex e _ _ hC1))).is (by rw [List.length_map])
  refine s_if (b := decide (n < 2) && decide ((1 : Int) < (rows.length : Nat))) (et_and (et_testd (K := K) (ed_I0 (i := n) (j := 2) (ed_var rfl (.int n)) ed_int fun _ => .bl _)) fun _ => et_testd (K := K) (ed_I0 (i := (rows.length : Nat)) (j := 1) (lR rfl (Ex.refl _)) ed_int fun _ => .bl _)) (fun cnd H2 e2 => ?_) fun _ H2 e2 => ?_
  · rw [Bool.and_eq_true, decide_eq_true_eq, decide_eq_true_eq] at cnd
    have wv2 := wv1.ex e2
    refine wv_for (K := K) (σf := fun y => [some (.ref R), some (.ref c), some vR, some vC, some (.ref fr), some (.int n), y, none, none]) (y0 := none) (T := rows) (q := cols.length) (cov := fun A x y => x ∈ A ∧ y ∈ cols) wv2 ⟨b1, b2⟩ rne (fun Q hq => ?_) (fun _ _ => rfl) (fun A u H' kvs' m' a1 a2 a3 hu eu wu z1 z2 D' hD => ?_) fun Hs y H' kvs' m' hh eh wh gh => ?_
    · exact ⟨_, rfl, _, rfl, R, a, ns, vR, rows, rfl, wv2.row, dp_ex e2 _ _ hR1, ⟨by omega, r6⟩, fun Hs u H' e ok hu hh => hq Hs u H' e ok hu hh⟩
    · refine ⟨_, rfl, _, rfl, _, rfl, _, rfl, _, rfl, R, a, ns, c, fr, kvs', m', u, vC, A, cols, rfl, wu, hu, dp_ts (wv2.tst eu) _ _ (noL_nats _) (dp_ex e2 _ _ hC1), ⟨a1, cne, by omega, c6, by omega⟩, ⟨z1, z2⟩, fun v H'' kvs'' m'' e w g => hD H'' kvs'' m'' e w g⟩
    · refine q .non H' kvs' m' ((x1.trans (Exs.of e2)).trans eh) wh (gh.imp rfl fun x y hxy => ?_)
      obtain ⟨A, hA, hx⟩ := hh.cov x hxy.1
      exact ⟨A, hA, hx, hxy.2⟩
  · refine s_if (b := decide (n < 4) && decide ((1 : Int) < (cols.length : Nat))) (et_and (et_testd (K := K) (ed_I0 (i := n) (j := 4) (ed_var rfl (.int n)) ed_int fun _ => .bl _)) fun _ => et_testd (K := K) (ed_I0 (i := (cols.length : Nat)) (j := 1) (lC rfl e2) ed_int fun _ => .bl _)) (fun cnd H3 e3 => ?_) fun _ H3 e3 => ?_
    · rw [Bool.and_eq_true, decide_eq_true_eq, decide_eq_true_eq] at cnd
      have e23 := e2.trans e3
      have wv3 := wv1.ex e23
      refine wv_for (K := K) (σf := fun y => [some (.ref R), some (.ref c), some vR, some vC, some (.ref fr), some (.int n), y, none, none]) (y0 := none) (T := cols) (q := rows.length) (cov := fun A x y => x ∈ rows ∧ y ∈ A) wv3 ⟨by rw [Nat.mul_comm]; exact b1, by rw [Nat.mul_comm]; exact b2⟩ cne (fun Q hq => ?_) (fun _ _ => rfl) (fun A u H' kvs' m' a1 a2 a3 hu eu wu z1 z2 D' hD => ?_) fun Hs y H' kvs' m' hh eh wh gh => ?_
      · exact ⟨_, rfl, _, rfl, R, a, ns, vC, cols, rfl, wv3.row, dp_ex e23 _ _ hC1, ⟨by omega, c6⟩, fun Hs u H' e ok hu hh => hq Hs u H' e ok hu hh⟩
      · refine ⟨_, rfl, _, rfl, _, rfl, _, rfl, _, rfl, R, a, ns, c, fr, kvs', m', vR, u, rows, A, rfl, wu, dp_ts (wv3.tst eu) _ _ (noL_nats _) (dp_ex e23 _ _ hR1), hu, ⟨rne, a1, r6, by omega, by omega⟩, ⟨by rw [Nat.mul_comm]; exact z1, by rw [Nat.mul_comm]; exact z2⟩, fun v H'' kvs'' m'' e w g => hD H'' kvs'' m'' e w (g.imp (Nat.mul_comm _ _) fun _ _ z => z)⟩
      · refine q .non H' kvs' m' ((x1.trans (Exs.of e23)).trans eh) wh (gh.imp (Nat.mul_comm _ _) fun x y hxy => ?_)
        obtain ⟨A, hA, hx⟩ := hh.cov y hxy.2
        exact ⟨A, hA, hxy.1, hx⟩
    · have e23 := e2.trans e3
      have wv3 := wv1.ex e23
      obtain ⟨fs, hf, hl⟩ := id wv3.fre
      refine q_app hf (ev_var rfl) ((ev_len (ev_var rfl) (sq_of hf)) |> fun z => by rw [List.length_map, hl] at z; exact z) (by rw [List.length_map]; have := List.length_pos_iff.mpr rne; omega) fun H4 e4 => ?_
      have hap : fs.map V.int ++ [V.int ((m : Nat) : Int)] = (fs ++ [((m : Nat) : Int)]).map V.int := by rw [List.map_append]; rfl
      rw [hap]
      have e24 := e23.trans e4
      have wv4 : Wv K (upd H4 fr (.lst ((fs ++ [((m : Nat) : Int)]).map V.int))) R a ns c fr kvs (m + 1) := (wv3.ex e4).app (by rw [List.length_append, hl]; rfl)
      have x4 : Exs [R, c, fr] H (upd H4 fr (.lst ((fs ++ [((m : Nat) : Int)]).map V.int))) := (x1.trans (Exs.of e24)).upd (by simp)
      generalize upd H4 fr (.lst ((fs ++ [((m : Nat) : Int)]).map V.int)) = H5 at wv4 x4 ⊢
      have hR5 := dp_ts (wv.tst x4) _ _ (noL_nats _) hR
      have hC5 := dp_ts (wv.tst x4) _ _ (noL_nats _) hC
      refine d_forT (A := rows) (enc := natD) (ed_var rfl hR5) (fun _ _ => rfl) (fun H6 i σ' H' => ∃ (y7 y8 : Option V) (kvs' : List (List Key × V)), σ' = [some (.ref R), some (.ref c), some vR, some vC, some (.ref fr), some (.int n), none, y7, y8] ∧ Exs [R, c, fr] H6 H' ∧ Wv K H' R a ns c fr kvs' (m + 1) ∧ kvs'.length ≤ kvs.length + i * cols.length ∧ (∀ x ∈ rows.take i, ∀ y ∈ cols, In kvs' (m + 1) x y) ∧ ∀ x y, In kvs m x y → In kvs' (m + 1) x y)
        (fun H6 e6 => ⟨none, none, kvs, rfl, Exs.refl _ _, wv4.ex e6, by omega, fun x hx => by simp at hx, fun x y z => in_up z (by omega)⟩) (fun H6 i σ' H' e6 hp => ?_) (fun i x v σ' H6 H' e6 hi hv hp => ?_) fun H6 σ' H' e6 hp => ?_
      · obtain ⟨_, _, _, _, e, _⟩ := hp
        exact (wv4.ex e6).tst e
      · obtain ⟨y7, y8, kvs', rfl, eA, wA, szA, cvA, kpA⟩ := hp
        have ev := dp_int hv
        subst ev
        have x6 := (x4.trans (Exs.of e6)).trans eA
        refine d_forT (A := cols) (enc := natD) (ed_var rfl (dp_ts (wv.tst x6) _ _ (noL_nats _) hC)) (fun _ _ => rfl) (fun H7 j σ' H'' => ∃ (y8 : Option V) (kvs'' : List (List Key × V)), σ' = [some (.ref R), some (.ref c), some vR, some vC, some (.ref fr), some (.int n), none, some (.int (x : Nat)), y8] ∧ Exs [R, c, fr] H7 H'' ∧ Wv K H'' R a ns c fr kvs'' (m + 1) ∧ kvs''.length ≤ kvs.length + i * cols.length + j ∧ (∀ x ∈ rows.take i, ∀ y ∈ cols, In kvs'' (m + 1) x y) ∧ (∀ y ∈ cols.take j, In kvs'' (m + 1) x y) ∧ ∀ x y, In kvs m x y → In kvs'' (m + 1) x y)
          (fun H7 e7 => ⟨y8, kvs', rfl, Exs.refl _ _, wA.ex e7, by omega, cvA, fun y hy => by simp at hy, kpA⟩) (fun H7 j σ' H'' e7 hp => ?_) (fun j y v σ' H7 H'' e7 hj hv hp => ?_) fun H7 σ' H'' e7 hp => ?_
        · obtain ⟨_, _, _, e, _⟩ := hp
          exact (wA.ex e7).tst e
        · obtain ⟨y8, kvs'', rfl, eB, wB, szB, cvB, cwB, kpB⟩ := hp
          have ev := dp_int hv
          subst ev
          obtain ⟨fs', hf', hl'⟩ := id wB.fre
          have lf : Ed K (tCB (rLenS K) (tCons (tVar 4) tNil)) [some (.ref R), some (.ref c), some vR, some vC, some (.ref fr), some (.int n), none, some (.int (x : Nat)), some (.int (y : Nat))] H'' (.int ((m + 1 : Nat) : Int)) :=
            ed_ev ((ev_len (ev_var rfl) (sq_of hf')) |> fun z => by rw [List.length_map, hl'] at z; exact z) fun _ _ => .int _
          have hil : i < rows.length := (List.getElem?_eq_some_iff.mp hi).1
          have hjl : j < cols.length := (List.getElem?_eq_some_iff.mp hj).1
          have il : (i + 1) * cols.length ≤ rows.length * cols.length := Nat.mul_le_mul_right _ hil
          rw [Nat.add_mul, Nat.one_mul] at il
          refine d_go (K := K) ((ed_sub lf ed_int).is (d1 := .int (m : Nat)) (congrArg PyData.int (by omega))) fun u H8 e8 hu => ?_
          rw [dp_int hu]
          refine ⟨_, rfl, _, rfl, _, rfl, Nat.le_of_ble_eq_true rfl, fun b hb => ?_⟩
          have e9 : Ex H8 (upd H8 b (.tup [.int (x : Nat), .int (y : Nat)])) := Ex.new hb
          have wC := wB.ex (e8.trans e9)
          refine ⟨c, _, rfl, DPut.t (k := ck x y) wC.dic upd_same (sz_lt (by omega)), _, _, rfl, ((eB.trans (Exs.of (e8.trans e9))).upd (by simp)), wC.put, ?_, fun x' hx' y' hy' => in_put (cvB x' hx' y' hy'), fun y' hy' => ?_, fun x' y' z => in_put (kpB x' y' z)⟩
          · have := length_putK kvs'' (ck x y) (V.int (m : Nat))
            omega
          · rw [take_snoc hj, List.mem_append, List.mem_singleton] at hy'
            rcases hy' with z | z
            · exact in_put (cwB y' z)
            · rw [z]
              exact in_new
        · obtain ⟨y8, kvs'', rfl, eB, wB, szB, cvB, cwB, kpB⟩ := hp
          rw [List.take_length] at cwB
          refine ⟨_, _, kvs'', rfl, (eA.trans (Exs.of e7)).trans eB, wB, by rw [Nat.add_mul]; omega, fun x' hx' y' hy' => ?_, kpB⟩
          rw [take_snoc hi, List.mem_append, List.mem_singleton] at hx'
          rcases hx' with z | z
          · exact cvB x' z y' hy'
          · rw [z]
            exact cwB y' hy'
      · obtain ⟨y7, y8, kvs', rfl, eA, wA, szA, cvA, kpA⟩ := hp
        rw [List.take_length] at cvA
        have p1 := Nat.mul_pos (List.length_pos_iff.mpr rne) (List.length_pos_iff.mpr cne)
        exact q .non H' kvs' (m + 1) ((x4.trans (Exs.of e6)).trans eA) wA ⟨by omega, by omega, szA, fun x y z => cvA x z.1 y z.2, kpA⟩
end
end K15
namespace K15
open PySem L2 Evl
def cellOf (kvs : List (List Key × V)) (x y : Nat) : Int := match valV kvs (ck x y) with
  | some (.int v) => v
  | _ => 0
theorem cellOf_in {kvs : List (List Key × V)} {m x y : Nat} (h : In kvs m x y) : valV kvs (ck x y) = some (.int (cellOf kvs x y)) ∧ 0 ≤ cellOf kvs x y ∧ cellOf kvs x y < m := by
  obtain ⟨v, h1, h2, h3⟩ := h
  unfold cellOf
  rw [h1]
  exact ⟨rfl, h2, h3⟩
def wovenT (kvs : List (List Key × V)) (n m : Nat) : Tab := (List.range n).map fun x => (List.range m).map fun y => cellOf kvs x y
theorem woven_ok {kvs : List (List Key × V)} {n m mf : Nat} (hn : 1 ≤ n ∧ n ≤ 6) (hm : 1 ≤ m ∧ m ≤ 6) (hf : mf ≤ 36) (h : ∀ x, x < n → ∀ y, y < m → In kvs mf x y) : TabOk (wovenT kvs n m) n m where
  rows := by rw [wovenT, List.length_map, List.length_range]
  cols := fun r hr => by
    obtain ⟨x, _, rfl⟩ := List.mem_map.mp hr
    (rw [List.length_map, List.length_range])
  n1 := hn.1
  n6 := hn.2
  m1 := hm.1
  m6 := hm.2
  rng := fun r hr a ha => by
    obtain ⟨x, hx, rfl⟩ := List.mem_map.mp hr
    obtain ⟨y, hy, rfl⟩ := List.mem_map.mp ha
    obtain ⟨_, z1, z2⟩ := cellOf_in (h x (List.mem_range.mp hx) y (List.mem_range.mp hy))
    omega
def swapT (t : Tab) (one other : Int) : Tab := t.map fun r => r.map fun x => if x == other then one else x
theorem swap_ok {t : Tab} {n m : Nat} {one other : Int} (h : TabOk t n m) (h1 : 0 ≤ one ∧ one ≤ 99) : TabOk (swapT t one other) n m where
  rows := by rw [swapT, List.length_map]; exact h.rows
  cols := fun r hr => by
    obtain ⟨x, hx, rfl⟩ := List.mem_map.mp hr
    rw [List.length_map]
    exact h.cols x hx
  n1 := h.n1
  n6 := h.n6
  m1 := h.m1
  m6 := h.m6
  rng := fun r hr a ha => by
    obtain ⟨x, hx, rfl⟩ := List.mem_map.mp hr
    obtain ⟨y, hy, rfl⟩ := List.mem_map.mp ha
    split
    · exact h1
    · exact h.rng x hx y hy
section
variable {K : PySem.W.Frag} {σ : L2.St} {H H0 H1 H' : Hp} {R a c fr : Addr} {ns : List Int} {ta tb tc te tl tk tv : TE} {D : Ends} {tu tz : L2.TS} {P : PyData → Prop}
theorem er_tupRg (h : Er K R a ns te σ H P) (hp : ∀ d, P d → ∃ n : Nat, d = .int (n : Nat) ∧ n ≤ 1000) : Er K R a ns (tTupRg (tRg1 te)) σ H fun d => ∃ n : Nat, d = natsD (List.range n) ∧ P (.int (n : Nat)) := fun H1 e1 ok Q q =>
  h H1 e1 ok _ fun v d H2 e2 ok2 p hv => by
    obtain ⟨n, rfl, hn⟩ := hp d p
    exact ⟨(n : Nat), dp_int hv, RgOk.of_le (by omega) (by omega) (by omega) (by omega), fun q' hq => q _ _ _ (e2.trans (Exs.of (Ex.new hq))) (ok2.ex (Ex.new hq)) ⟨n, rfl, p⟩ (.tup (st_of upd_same) (by rw [rg_nats]; exact dps_nats _))⟩
/-- d[x, y] -/
theorem ed_dgetT {p : Addr} {kvs : List (List Key × V)} {j : Nat} {x y : Nat} {n : Int} (h0 : σ[j]? = some (some (.ref p))) (hp : H p = some (.dT kvs)) (ha : Ed K ta σ H (natD x)) (hb : Ed K tb σ H (natD y)) (hv : valV kvs (ck x y) = some (.int n)) :
    Ed K (tDGet (tVar j) (tTup (tCons ta (tCons tb tNil)))) σ H (.int n) := fun H1 e1 Q q => ⟨_, h0, ha H1 e1 _ fun u H2 e2 hu => hb H2 (e1.trans e2) _ fun v H3 e3 hv3 => by
  rw [dp_int hu, dp_int hv3]
  refine ⟨Nat.le_of_ble_eq_true rfl, fun b hb' => ?_⟩
  have e4 : Ex H3 (upd H3 b (.tup [.int (x : Nat), .int (y : Nat)])) := Ex.new hb'
  refine ⟨p, .int n, rfl, ?_, q _ _ ((e2.trans e3).trans e4) (.int n)⟩
  rw [← hv]
  exact DGet.t (k := ck x y) ((((e1.trans e2).trans e3).trans e4) p _ hp) upd_same⟩
/-- cells, free = {}, [] -/
theorem dq_cells {i j : Nat} (ok : RowOk K H R a ns) (k : ∀ c fr H1, H c = none → H fr = none → Ex H H1 → Wv K H1 R a ns c fr [] 0 → tz D ((σ.set i (some (.ref c))).set j (some (.ref fr))) H1) :
    tSeq (tAsg (tTup (tCons tDNewT (tCons (tLst tNil) tNil))) (gTup K 2 (gCons (gName i) (gCons (gName j) gNil)))) tz D σ H := fun c hc => ⟨Nat.zero_le _, fun fr hfr => ⟨Nat.le_of_ble_eq_true rfl, fun t ht => by
  have e1 : Ex H (upd H c (.dT [])) := Ex.new hc
  have e2 : Ex (upd H c (.dT [])) (upd (upd H c (.dT [])) fr (.lst [])) := Ex.new hfr
  have e3 : Ex (upd (upd H c (.dT [])) fr (.lst [])) (upd (upd (upd H c (.dT [])) fr (.lst [])) t (.tup [.ref c, .ref fr])) := Ex.new ht
  have ea := e1.trans (e2.trans e3)
  have hf0 : H fr = none := fresh_back e1 hfr
  refine ⟨t, _, rfl, st_of upd_same, rfl, _, [_], rfl, _, [], rfl, rfl, k c fr _ hc hf0 ea ⟨ok.ex ea, (e2.trans e3) _ _ upd_same, ⟨[], e3 _ _ upd_same, rfl⟩, ?_⟩⟩
  rcases ok.scr with (h | ⟨o, h⟩) | h
  · exact .inl fun z => by
      rw [z, hf0] at h
      cases h
  · exact .inl fun z => by
      rw [z, hf0] at h
      cases h
  · exact .inr fun _ => .inr h⟩⟩
end
section
variable {P : Program} {w : World} {K : PySem.W.Frag} {mg : Str → Option Value} {base : Heap} {f : Addr} {fd : FuncData} {k : Nat}
def spTT (K : PySem.W.Frag) : Sp := fun vs H Q _ => ∃ (R a : Addr) (ns : List Int) (h1 h2 : Int), vs = [.ref R, .int h1, .int h2] ∧ RowOk K H R a ns ∧ (0 < h1 ∧ h1 ≤ 6) ∧ (0 < h2 ∧ h2 ≤ 6) ∧
  ∀ (i : TI) u H', i.ok → Exs [R] H H' → RowOk K H' R a ns → Dp K H' u (tabD i.t) → Q u H'
theorem ok__law_told_table (F : Fun K "_law_told_table" "_law_told_table" (top 43) f fd) (B : Bi mg) (C : Co mg) (G1 : Fn P w K mg base k "_law_taken" ["_law_row", "_law_many"] (spTaken K)) (G2 : Fn P w K mg base k "_law_woven" ["_law_row", "_law_table_here", "_law_rows", "_law_columns", "_law_free"] (spWoven K 12))
    (G3 : Fn P w K mg base k "_law_told" ["_law_table_here", "_law_rows", "_law_columns"] (spLTold K 12)) : FnOk P w K mg base CX0 (k + 1) f fd ["_law_row", "_law_high", "_law_wide"] (spTT K) := by
  refine F.ok sc__law_told_table (fun vs H Q E h => ?_) (fun cdv A outer s H vs Q E hr h => ?_)
  · obtain ⟨_, _, _, _, _, rfl, _⟩ := h
    rfl
  obtain ⟨R, a, ns, m1, m2, rfl, ok, ⟨a1, b1⟩, ⟨a2, b2⟩, q⟩ := h
  refine ⟨_, d__law_told_table B C _ _ _ G1 G2 G3 hr, ?_⟩
  have nb : ∀ {m : Int}, m ≤ 6 → ∀ d : PyData, (∃ n, d = PyData.int (1 + n) ∧ NatB m (PyData.int n)) → ∃ n : Nat, d = PyData.int (n : Nat) ∧ n ≤ 1000 := fun hm d h => by
    obtain ⟨n, rfl, n', hn, n0, n1⟩ := h
    have hn := PyData.int.inj hn
    subst hn
    exact ⟨(1 + n).toNat, congrArg PyData.int (by omega), by omega⟩
  refine dr_asg2 (er_tup2 (er_tupRg (er_add (er_taken (m := m1) rfl ⟨by omega, by omega⟩ fun H1 _ _ => ed_var rfl (.int _)) fun d h => h.elim fun n z => ⟨n, z.1⟩) (nb b1)) (er_tupRg (er_add (er_taken (m := m2) rfl ⟨by omega, by omega⟩ fun H1 _ _ => ed_var rfl (.int _)) fun d h => h.elim fun n z => ⟨n, z.1⟩) (nb b2)) (fun d h => by obtain ⟨n, rfl, _⟩ := h; exact noL_nats _)) ok (fun d h => by obtain ⟨d1, d2, z, _⟩ := h; exact ⟨d1, d2, z⟩) fun d1 d2 vr vc H1 e1 ok1 p hr1 hc1 => ?_
  obtain ⟨_, _, hd, ⟨N, rfl, n1, hn1, n1', hn1', c1, c1'⟩, ⟨M, rfl, n2, hn2, n2', hn2', c2, c2'⟩⟩ := p
  have hn1' := PyData.int.inj hn1'
  have hn2' := PyData.int.inj hn2'
  have hn1 := PyData.int.inj hn1
  have hn2 := PyData.int.inj hn2
  simp only [PyData.tuple.injEq, List.cons.injEq, and_true] at hd
  obtain ⟨rfl, rfl⟩ := hd
  have N6 : 1 ≤ N ∧ N ≤ 6 := by omega
  have M6 : 1 ≤ M ∧ M ≤ 6 := by omega
  refine dq_cells ok1 fun c fr H2 hc hfr e2 wv2 => ?_
  have x2 : Exs [R] H H2 := e1.trans (Exs.of e2)
  have hr2 := dp_ex e2 _ _ hr1
  have hc2 := dp_ex e2 _ _ hc1
  have nm : N * M ≤ 6 * 6 := Nat.mul_le_mul N6.2 M6.2
  refine ⟨_, rfl, _, rfl, _, rfl, _, rfl, _, rfl, R, a, ns, c, fr, [], 0, vr, vc, List.range N, List.range M, rfl, wv2, hr2, hc2, ⟨range_ne N6.1, range_ne M6.1, by rw [List.length_range]; omega, by rw [List.length_range]; omega, by rw [List.length_range, List.length_range]; omega⟩, ⟨by rw [List.length_range, List.length_range, List.length_nil]; omega, by rw [List.length_range, List.length_range]; omega⟩, fun v3 H3 kvs mf e3 wv3 g => ?_⟩
  rw [List.length_range, List.length_range] at g
  have gf := g.few
  have inn : ∀ x, x < N → ∀ y, y < M → In kvs mf x y := fun x hx y hy => g.cov x y ⟨List.mem_range.mpr hx, List.mem_range.mpr hy⟩
  have mf1 : 1 ≤ mf := by
    obtain ⟨v, _, z0, z1⟩ := inn 0 (by omega) 0 (by omega)
    omega
  have x3 : Exs [R] H H3 := fun b o n hb => by
    have h1 := e1 b o n hb
    refine e3 b o (fun z => ?_) (e2 b o h1)
    simp only [List.mem_cons, List.not_mem_nil, or_false] at z n
    rcases z with z | z | z
    · exact n z
    · rw [z, hc] at h1
      cases h1
    · rw [z, hfr] at h1
      cases h1
  have hr3 := dp_ts (wv2.tst e3) _ _ (noL_nats _) hr2
  have hc3 := dp_ts (wv2.tst e3) _ _ (noL_nats _) hc2
  refine dq_asg (K := K) (d := tabD (wovenT kvs N M)) (ed_tupleL ((ed_lcT (A := List.range N) (enc := natD) (p := fun _ => true) (f := fun x => rowD ((List.range M).map fun y => cellOf kvs x y)) (ed_var rfl hr3) (fun _ => rfl) (by rw [List.length_range]; omega) (fun _ _ => noL_row _) (fun _ _ _ _ _ _ => et_yes) fun x hx _ v H4 e4 hv => ?_).is ?_)) fun vt H4 e4 hvt => ?_
  · refine ed_tupleL ((ed_lcT (A := List.range M) (enc := natD) (p := fun _ => true) (f := fun y => .int (cellOf kvs x y)) (ed_var rfl (dp_ex e4 _ _ hc3)) (fun _ => rfl) (by rw [List.length_range]; omega) (fun _ _ => rfl) (fun _ _ _ _ _ _ => et_yes) fun y hy _ u H5 e5 hu => ?_).is ?_)
    · exact ed_dgetT rfl ((e4.trans e5) _ _ wv3.dic) (ed_var rfl (dp_ex e5 _ _ hv)) (ed_var rfl hu) (cellOf_in (inn x (List.mem_range.mp hx) y (List.mem_range.mp hy))).1
    · rw [filter_yes, List.map_map]
      rfl
  · rw [filter_yes, wovenT, List.map_map]
    rfl
  have wv4 := wv3.ex e4
  have x4 := x3.trans (Exs.of (S := [R]) e4)
  have hr4 := dp_ex e4 _ _ hr3
  have hc4 := dp_ex e4 _ _ hc3
  have t0 := woven_ok N6 M6 (by omega) inn
  refine er_taken (m := 4) rfl ⟨by decide, by decide⟩ (fun H5 _ _ => ed_int) H4 (Exs.refl _ _) wv4.row _ fun vn d H5 e5 ok5 p hvn => ?_
  obtain ⟨n, rfl, n0, n1⟩ := p
  rw [dp_int hvn]
  have wv5 := wv4.turn e5 ok5
  refine ⟨n, rfl, by omega, by omega, for_range (lo := 0) (n := n.toNat) (fun i σ' H' => ∃ (vt : V) (t : Tab) (y4 y9 y10 y11 : Option V), σ' = [some (.ref R), some (.int m1), some (.int m2), some vt, y4, some vr, some vc, some (.ref c), some (.ref fr), y9, y10, y11, none, none, none, none] ∧ Exs [R] H5 H' ∧ RowOk K H' R a ns ∧ Dp K H' vt (tabD t) ∧ TabOk t N M)
    ⟨vt, _, none, none, none, none, rfl, Exs.refl _ _, ok5, dp_ts (wv4.row.tst e5) _ _ (noL_tab _) hvt, t0⟩ (fun i σ' H' hi p => ?_) fun σ' H' p => ?_⟩
  · clear hvt
    obtain ⟨vt, t, y4, y9, y10, y11, rfl, e6, ok6, hvt, tok⟩ := p
    have wv6 := wv5.turn e6 ok6
    have lf : ∀ H7, Exs [R] H' H7 → RowOk K H7 R a ns → ∀ {σ : L2.St}, σ[8]? = some (some (.ref fr)) → Ed K (tCB (rLenS K) (tCons (tVar 8) tNil)) σ H7 (.int (mf : Nat)) := fun H7 e7 ok7 σ h0 => by
      obtain ⟨fs, hf, hl⟩ := (wv6.turn e7 ok7).fre
      exact ed_ev ((ev_len (ev_var h0) (sq_of hf)) |> fun z => by rw [List.length_map, hl] at z; exact z) fun _ _ => .int _
    refine dr_asg2 (er_tup2 (er_taken (m := ((mf : Nat) : Int)) rfl ⟨by omega, by omega⟩ fun H7 e7 ok7 => lf H7 e7 ok7 rfl) (er_taken (m := ((mf : Nat) : Int)) rfl ⟨by omega, by omega⟩ fun H7 e7 ok7 => lf H7 e7 ok7 rfl) fun d h => natB_noL h) ok6 (fun d h => by obtain ⟨d1, d2, z, _⟩ := h; exact ⟨d1, d2, z⟩) fun d1 d2 vo vu H7 e7 ok7 p ho hu => ?_
    obtain ⟨_, _, hd, ⟨one, rfl, o0, o1⟩, ⟨oth, rfl, u0, u1⟩⟩ := p
    simp only [PyData.tuple.injEq, List.cons.injEq, and_true] at hd
    obtain ⟨rfl, rfl⟩ := hd
    have x7 := ((e5.trans e6).trans e7)
    have t7 := wv4.row.tst x7
    have hr7 := dp_ts t7 _ _ (noL_nats _) hr4
    have hc7 := dp_ts t7 _ _ (noL_nats _) hc4
    have hv7 := dp_ts (ok6.tst e7) _ _ (noL_tab _) hvt
    have n6 := tok.n6
    have m6 := tok.m6
    refine dq_asg (K := K) (d := tabD (swapT t one oth)) (ed_tupleL ((ed_lcT (A := t) (enc := rowD) (p := fun _ => true) (f := fun r => rowD (r.map fun x => if x == oth then one else x)) (ed_var rfl hv7) (fun _ => rfl) (by rw [tok.rows]; omega) (fun _ _ => noL_row _) (fun _ _ _ _ _ _ => et_yes) fun r hr _ v H8 e8 hv => ?_).is ?_)) fun vn8 H8 e8 hn8 => ?_
    · refine ed_tupleL ((ed_lcT (A := r) (enc := .int) (p := fun _ => true) (f := fun x => .int (if x == oth then one else x)) (ed_var rfl hv) (fun _ => rfl) (by rw [tok.cols r hr]; omega) (fun _ _ => rfl) (fun _ _ _ _ _ _ => et_yes) fun x hx _ u H9 e9 hu9 => ?_).is ?_)
      · refine ed_if (K := K) (b := x == oth) (et_testd (K := K) (ed_eqI (ed_var rfl hu9) (ed_var rfl (dp_ex (e8.trans e9) _ _ hu)))) (fun c => ?_) fun c => ?_
        · rw [c, if_pos rfl]
          exact ed_var rfl (dp_ex (e8.trans e9) _ _ ho)
        · rw [c, if_neg (by decide)]
          exact ed_var rfl hu9
      · rw [filter_yes, List.map_map]
        rfl
    · rw [filter_yes, swapT, List.map_map]
      rfl
    have sok : TabOk (swapT t one oth) N M := swap_ok tok ⟨o0, by omega⟩
    have pok := pt_ok (i := ⟨swapT t one oth, N, M⟩) sok
    refine d_asg (K := K) (d := tabD (if nkB (TI.pt ⟨swapT t one oth, N, M⟩) = true then swapT t one oth else t)) (ed_if (b := nkB (TI.pt ⟨swapT t one oth, N, M⟩)) (et_Bd (ed_nk (N := 12) (p := TI.pt ⟨swapT t one oth, N, M⟩) (ea_consD (ed_var rfl hn8) (ea2 (ed_var rfl (dp_ex e8 _ _ hr7)) (ed_var rfl (dp_ex e8 _ _ hc7)))) pok (by show (List.range N).length + (List.range M).length ≤ 12; rw [List.length_range, List.length_range]; omega))) (fun c => ?_) fun c => ?_) fun v9 H9 e9 hv9 => ⟨v9, _, _, _, _, _, rfl, (e6.trans e7).trans (Exs.of (e8.trans e9)), ok7.ex (e8.trans e9), hv9, ?_⟩
    · rw [if_pos c]
      exact ed_var rfl hn8
    · rw [if_neg (by rw [c]; decide)]
      exact ed_var rfl (dp_ex e8 _ _ hv7)
    · split
      · exact sok
      · exact tok
  · clear hvt
    obtain ⟨vt, t, y4, y9, y10, y11, rfl, e6, ok6, hvt, tok⟩ := p
    exact d_ret (K := K) (ed_var rfl hvt) fun v7 H7 e7 hv7 => q ⟨t, N, M⟩ v7 H7 tok ((x4.trans (e5.trans e6)).trans (Exs.of e7)) (ok6.ex e7) hv7
end
end K15
namespace K15
open PySem L2 Evl
open PySem.W (alike alikeAll dataLt dataLe keyToks keyToksAll AllAlike Sortable AlikeAll)
theorem asc_ins : ∀ (as : List Int), Asc as → ∀ x, ∃ bs, Asc bs ∧ ∀ k, k ∈ bs ↔ k = x ∨ k ∈ as
  | [], _, x => ⟨[x], by simp [Asc], fun k => by simp⟩
  | a :: r, h, x => by
    (obtain ⟨h1, h2⟩ := List.pairwise_cons.mp h)
    by_cases c : x < a
    · refine ⟨x :: a :: r, List.pairwise_cons.mpr ⟨fun y hy => ?_, h⟩, fun k => by simp⟩
      (rcases List.mem_cons.mp hy with rfl | hy)
      · exact c
      · have := h1 y hy
        omega
    · by_cases c2 : x = a
      · exact ⟨a :: r, h, fun k => by rw [c2]; simp⟩
      · obtain ⟨bs, b1, b2⟩ := asc_ins r h2 x
        refine ⟨a :: bs, List.pairwise_cons.mpr ⟨fun y hy => ?_, b1⟩, fun k => ?_⟩
        · rcases (b2 y).mp hy with rfl | hy
          · omega
          · exact h1 y hy
        · rw [List.mem_cons, b2, List.mem_cons]
          constructor
          · rintro (z | z | z)
            · exact .inr (.inl z)
            · exact .inl z
            · exact .inr (.inr z)
          · rintro (z | z | z)
            · exact .inr (.inl z)
            · exact .inl z
            · exact .inr (.inr z)
theorem asc_of : ∀ l : List Int, ∃ as, Asc as ∧ ∀ k, k ∈ as ↔ k ∈ l
  | [] => ⟨[], List.Pairwise.nil, fun _ => Iff.rfl⟩
  | a :: l => by
    obtain ⟨as, h1, h2⟩ := asc_of l
    obtain ⟨bs, b1, b2⟩ := asc_ins as h1 a
    exact ⟨bs, b1, fun k => by rw [b2, h2, List.mem_cons]⟩
theorem ans_of (t : Tab) : ∃ as, AnsOf t as := by
  obtain ⟨as, h1, h2⟩ := asc_of t.flatten
  exact ⟨as, h1, fun a => by rw [h2, List.mem_flatten]⟩
theorem Fine.one {i : AI} {l m : Lots} (h : Fine i l) (g : Fine i m) : l = m := fine_total (g.least l h.mem h.told) (h.least m g.mem g.told)
/-- the least of the told ones is the finest -/
theorem fine_min {i : AI} (ok : i.Ok) : ∃ l0 r, (lawAll i.as).filter (fun l => toldB (blurT l i.i.t) i.i.n i.i.m) = l0 :: r ∧ ∃ lm, PySem.W.minD (fineD l0) (r.map fineD) = fineD lm ∧ Fine i lm := by
  have hw : [i.as] ∈ (lawAll i.as).filter fun l => toldB (blurT l i.i.t) i.i.n i.i.m := List.mem_filter.mpr ⟨whole_in _ (as_ne ok.1 ok.2.1), whole_told ok.1 ok.2.1⟩
  cases e : (lawAll i.as).filter fun l => toldB (blurT l i.i.t) i.i.n i.i.m with
  | nil =>
    rw [e] at hw
    cases hw
  | cons l0 r =>
    obtain ⟨m1, m2⟩ := minD_min (r.map fineD) (fineD l0)
    rw [← List.map_cons] at m1 m2
    obtain ⟨lm, hlm, hm⟩ := List.mem_map.mp m1
    rw [← e] at hlm
    obtain ⟨q1, q2⟩ := List.mem_filter.mp hlm
    refine ⟨l0, r, rfl, lm, hm.symm, q1, q2, fun l' hl' ht' => ?_⟩
    have := m2 (fineD l') (List.mem_map.mpr ⟨l', by rw [← e]; exact List.mem_filter.mpr ⟨hl', ht'⟩, rfl⟩)
    rw [← hm] at this
    exact this
/-- told as it stands: when the finest lots are all single -/
theorem told_len {i : AI} (ok : i.Ok) {l : Lots} (h : Fine i l) : toldB i.i.t i.i.n i.i.m = (l.length == i.as.length) := by
  have lok := lawAll_ok _ ok.2.1.asc l h.mem
  have sok := lawAll_ok _ ok.2.1.asc _ (singles_in i.as)
  (rw [Bool.eq_iff_iff, beq_iff_eq])
  constructor
  · intro ht
    have hs := h.least _ (singles_in i.as) (by rw [blur_id ok.2.1 sok (singles_len _)]; exact ht)
    by_cases c : l.length < i.as.length
    · rw [fine_len (l := i.as.map fun a => [a]) (m := l) (by rw [singles_len]; exact c)] at hs
      cases hs
    · have := lok.len
      omega
  · intro e
    have := h.told
    rw [blur_id ok.2.1 lok e] at this
    exact this
theorem told_nk (t : Tab) (n m : Nat) : nkB (TI.pt ⟨t, n, m⟩) = toldB t n m := rfl
section
variable {K : PySem.W.Frag} {σ : L2.St} {H H0 H1 H' : Hp} {R a c fr : Addr} {ns : List Int} {ta tb tc te tl tk tv : TE} {d : PyData} {D : Ends} {tu tz : L2.TS} {P : PyData → Prop} {E : XK} {t : TA}
theorem ed_fine {i : AI} {l : Lots} (h : EdA K t σ H [tabD i.i.t]) (ok : i.Ok) (hf : Fine i l) : Ed K (tCall (spFine K) [] E t) σ H (tabD l) :=
  ed_call h fun vs H1 e hv Q q => ⟨i, by rw [List.append_nil, dps_len hv]; rfl, ok, by rw [List.append_nil]; exact hv, fun d v H2 e2 hd hv2 => by
    obtain ⟨l', rfl, hl'⟩ := hd
    rw [hl'.one hf] at hv2
    exact q v H2 e2 hv2⟩
theorem ed_isTrue {b : Bool} (ha : Ed K ta σ H (.bool b)) : Ed K (tOp rIsB ta (tC (.bl true))) σ H (.bool b) := ed_op ha ed_bl fun x y H1 _ hx hy Q q => ⟨b, true, dp_bool hx, dp_bool hy, by
  have e : decide (b = true) = b := by cases b <;> rfl
  rw [e]
  exact q _ H1 (Ex.refl H1) (.bl _)⟩
theorem dp_ints_exs (ok : RowOk K H R a ns) (e : Exs [R] H H') {v : V} {as : List Int} (h : Dp K H v (.list (as.map .int))) : Dp K H' v (.list (as.map .int)) := by
  obtain ⟨l, xs, rfl, hs, hd⟩ := dp_lst h
  obtain ⟨p, s, h', hR, _⟩ := ok.row
  refine .lst ?_ (dps_ts (ok.tst e) _ _ (noLs_map fun _ _ => rfl) hd)
  rcases hs with (hs | ⟨o, hs⟩) | hs
  · refine .inl (.inl (e l _ (fun z => ?_) hs))
    rw [List.mem_singleton.mp z, hR] at hs
    have ex := HO.lst.inj (Option.some.inj hs)
    rw [dps_ints hd] at ex
    cases as <;> simp at ex
  · refine .inl (.inr ⟨o, e l _ (fun z => ?_) hs⟩)
    rw [List.mem_singleton.mp z, hR] at hs
    cases hs
  · exact .inr hs
/-- the table that is drawn -/
theorem dq_tab {j : Nat} (h0 : σ[1]? = some (some (.ref R))) (ok : RowOk K H R a ns) (k : ∀ (i : TI) u H', i.ok → Exs [R] H H' → RowOk K H' R a ns → Dp K H' u (tabD i.t) → tz D (σ.set j (some u)) H') :
    tSeq (tAsg (tIf (tTest (tOp rGtI (tCall (spTaken K) [] E0 (tCons (tVar 1) (tCons (tC (.int 3)) tNil))) (tC (.int 0)))) (tCall (spTable K) [] E0 (tCons (tVar 1) (tCons (tC (.int 4)) (tCons (tC (.int 4)) (tCons (tC (.int 5)) tNil))))) (tCall (spTT K) [] E0 (tCons (tVar 1) (tCons (tC (.int 4)) (tCons (tC (.int 4)) tNil))))) (gName j)) tz D σ H := by
  refine er_taken (m := 3) h0 ⟨by decide, by decide⟩ (fun H1 _ _ => ed_int) H (Exs.refl _ _) ok _ fun v d H1 e1 ok1 p hv => ?_
  obtain ⟨n, rfl, n0, n1⟩ := p
  refine ⟨n, 0, dp_int hv, rfl, decide ((0 : Int) < n), rfl, ?_⟩
  by_cases c : (0 : Int) < n
  · rw [decide_eq_true c]
    show if true = true then _ else _
    rw [if_pos rfl]
    exact ⟨_, h0, R, a, ns, 4, 4, 5, rfl, ok1, ⟨by decide, by decide⟩, ⟨by decide, by decide⟩, ⟨by decide, by decide⟩, fun i u H2 iok e2 ok2 hu => k i u H2 iok (e1.trans e2) ok2 hu⟩
  · rw [decide_eq_false c]
    show if false = true then _ else _
    rw [if_neg (by decide)]
    exact ⟨_, h0, R, a, ns, 4, 4, rfl, ok1, ⟨by decide, by decide⟩, ⟨by decide, by decide⟩, fun i u H2 iok e2 ok2 hu => k i u H2 iok (e1.trans e2) ok2 hu⟩
theorem ed_blur {i : QI} (h : EdA K t σ H [tabD i.i.t, tabD i.l]) (ok : i.Ok) : Ed K (tCall (spBlur K) [] E t) σ H (tabD (blurT i.l i.i.t)) := ed_fn (pre := QI.Ok) (out := fun i : QI => tabD (blurT i.l i.i.t)) i h ok rfl
theorem ed_told {i : TI} (h : EdA K t σ H [tabD i.t]) (ok : i.ok) : Ed K (tCall (spTold K) [] E t) σ H (.bool (toldB i.t i.n i.m)) := ed_fn (pre := TI.ok) (out := fun i : TI => .bool (toldB i.t i.n i.m)) i h ok rfl
theorem ed_join {i : TI} (h : EdA K t σ H [tabD i.t]) (ok : i.ok) : Ed K (tCall (spJoin K) [] E t) σ H (rowD (sortI i.t.flatten)) := ed_fn (pre := TI.ok) (out := fun i : TI => rowD (sortI i.t.flatten)) i h ok rfl
theorem ed_lall {as : List Int} (h : EdA K t σ H [.list (as.map .int)]) (ha : Asc as) (h6 : as.length ≤ 6) : Ed K (tCall (spLAll K) [] E t) σ H (lotsD (lawAll as)) := ed_fn (pre := BI.Ok) (out := fun i : BI => lotsD (lawAll i.as)) (⟨as⟩ : BI) h ⟨ha, h6⟩ rfl
end
section
variable {P : Program} {w : World} {K : PySem.W.Frag} {mg : Str → Option Value} {base : Heap} {f : Addr} {fd : FuncData} {k : Nat}
/-- what law(script) promises -/
def spLaw (K : PySem.W.Frag) : Sp := fun vs H Q _ => ∃ (l : Addr) (zs : List Int), vs = [.ref l] ∧ SqL K H l (zs.map V.int) ∧ zs.length ≤ 63 ∧ ∀ H', Q (.bl true) H'
theorem ok_law (F : Fun K "law" "law" (top 48) f fd) (B : Bi mg) (C : Co mg) (G1 : Fn P w K mg base k "_law_taken" ["_law_row", "_law_many"] (spTaken K)) (G2 : Fn P w K mg base k "_law_table" ["_law_row", "_law_high", "_law_wide", "_law_many"] (spTable K)) (G3 : Fn P w K mg base k "_law_told_table" ["_law_row", "_law_high", "_law_wide"] (spTT K))
    (G4 : Fn P w K mg base k "_law_whole" ["_law_table_here"] (spWhole K)) (G5 : Fn P w K mg base k "_law_joined" ["_law_lots_here"] (spJoin K)) (G6 : Fn P w K mg base k "_law_all_lots" ["_law_answers"] (spLAll K)) (G7 : Fn P w K mg base k "_law_pick" ["_law_row", "_law_things"] (spPick K))
    (G8 : Fn P w K mg base k "_law_blurred" ["_law_table_here", "_law_lots_here"] (spBlur K)) (G9 : Fn P w K mg base k "blurred" ["table", "lots"] (spBlur K)) (GA : Fn P w K mg base k "_law_alike" ["_law_found", "_law_due"] (spAlike K 3)) (GB : Fn P w K mg base k "_law_told" ["_law_table_here", "_law_rows", "_law_columns"] (spLTold K 12))
    (GC : Fn P w K mg base k "finest_blur" ["table"] (spFine K)) (GD : Fn P w K mg base k "can_be_told" ["table"] (spTold K)) : FnOk P w K mg base CX0 (k + 1) f fd ["_law_script"] (spLaw K) := by
  refine F.ok sc_law (fun vs H Q E h => ?_) (fun cdv A outer s H vs Q E hr h => ?_)
  · obtain ⟨_, _, rfl, _⟩ := h
    rfl
  (obtain ⟨a, ns, rfl, hS, h63, q⟩ := h)
  refine ⟨_, d_law B C _ _ _ _ _ _ _ _ _ _ _ _ _ G1 G2 G3 G4 G5 G6 G7 G8 G9 GA GB GC GD hr, ?_⟩
  refine ⟨_, rfl, Nat.le_of_ble_eq_true rfl, fun R hR => ?_⟩
  have e0 : Ex H (upd H R (.lst [.ref a, .int 0, .int 7715, .int 0])) := Ex.new hR
  have ok0 : RowOk K (upd H R (.lst [.ref a, .int 0, .int 7715, .int 0])) R a ns := ⟨⟨0, 7715, 0, upd_same, Int.le_refl 0⟩, ex_l e0 hS, h63⟩
  generalize upd H R (.lst [.ref a, .int 0, .int 7715, .int 0]) = H0 at ok0 ⊢
  refine dq_tab rfl ok0 fun i vt H1 iok e1 ok1 ht => ?_
  have n6 := iok.n6
  have m6 := iok.m6
  refine dq_asg2 (ed_fn (pre := TI.ok) i (ea1 (ed_var rfl ht)) iok rfl) fun vr vc H2 e2 hr2 hc2 => ?_
  have ht2 := dp_ex e2 _ _ ht
  obtain ⟨as, han⟩ := ans_of i.t
  have f36 := flat36 iok
  refine dq_asg (K := K) (d := .list (as.map .int)) (ed_setS (ns := sortI i.t.flatten) (as := as) true (ed_join (ea1 (ed_var rfl ht2)) iok) (by rw [(sortI_perm _).length_eq]; omega) han.asc fun x => by rw [(sortI_perm _).mem_iff, List.mem_flatten]; exact han.mem x) fun va H3 e3 hva => ?_
  refine q_when (b := decide ((6 : Int) < (as.length : Nat))) (et_testd (K := K) (ed_I0 (i := (as.length : Nat)) (j := 6) ((ed_lenL (ed_var rfl hva)).is (by rw [List.length_map])) ed_int fun _ => .bl _)) (fun _ H4 e4 => ?_) fun c6 H4 e4 => ?_
  · exact d_ret (K := K) (ed_bl (n := true)) fun v H5 e5 hv => by
      rw [dp_bool hv]
      exact q H5
  have six : as.length ≤ 6 := by
    have := of_decide_eq_false c6
    omega
  have aok : (⟨i, as⟩ : AI).Ok := ⟨iok, han, six⟩
  have e34 := e3.trans e4
  have hva4 := dp_ex e4 _ _ hva
  refine dq_asg (K := K) (ed_lall (ea1 (ed_var rfl hva4)) han.asc six) fun vs5 H5 e5 hvs => ?_
  have x5 := e2.trans (e34.trans e5)
  have ok5 := ok1.ex x5
  have small := (law_small han.asc six as.length).1
  rw [List.take_length] at small
  have lne : lawAll as ≠ [] := fun z => by
    have := singles_in as
    rw [z] at this
    cases this
  refine ⟨_, rfl, _, rfl, R, a, ns, vs5, lawAll as, rfl, ok5, hvs, lne, by omega, fun l vl H6 hl e6 ok6 hvl => ?_⟩
  have ht6 := dp_ts (ok5.tst e6) _ _ (noL_tab _) (dp_ex x5 _ _ ht)
  have hr6 := dp_ts (ok5.tst e6) _ _ (noL_nats _) (dp_ex (e34.trans e5) _ _ hr2)
  have hc6 := dp_ts (ok5.tst e6) _ _ (noL_nats _) (dp_ex (e34.trans e5) _ _ hc2)
  have hva6 := dp_ints_exs ok5 e6 (dp_ex e5 _ _ hva4)
  have hvs6 := dp_lots_exs ok5 e6 hvs
  have qok : ∀ l ∈ lawAll as, (⟨i, as, l⟩ : QI).Ok := fun l hl => qi_ok aok hl
  have bok : ∀ l ∈ lawAll as, (⟨blurT l i.t, i.n, i.m⟩ : TI).ok := fun l hl => blur_ti aok hl
  have okB : okA 3 (tabD (blurT l i.t)) := okA_tab (by rw [(bok l hl).rows]; show i.n ≤ 1000; omega) fun r hr => by rw [(bok l hl).cols r hr]; show i.m ≤ 1000; omega
  refine q_when (et_not (et_Bd (ed_alike (N := 3) (d := tabD (blurT l i.t)) (ea2 (ed_blur (i := ⟨i, as, l⟩) (ea2 (ed_var rfl ht6) (ed_var rfl hvl)) (qok l hl)) (ed_blur (i := ⟨i, as, l⟩) (ea2 (ed_var rfl ht6) (ed_var rfl hvl)) (qok l hl))) okB))) (fun c => absurd c (by decide)) fun _ H7 e7 => ?_
  have ht7 := dp_ex e7 _ _ ht6
  have hr7 := dp_ex e7 _ _ hr6
  have hc7 := dp_ex e7 _ _ hc6
  have hva7 := dp_ex e7 _ _ hva6
  obtain ⟨l0, r, hF, lm, hmin, fine⟩ := fine_min aok
  refine dq_asg (K := K) (d := .list (fineD l0 :: r.map fineD)) ((ed_lcL (A := lawAll as) (enc := tabD) (p := fun l => toldB (blurT l i.t) i.n i.m) (f := fineD) (ed_var rfl (dp_ex e7 _ _ hvs6)) (fun _ => rfl) (by omega) (fun _ _ => noL_fine _) (fun l hl u H8 e8 hu => ?_) fun l hl _ u H8 e8 hu => ?_).is ?_) fun vF H8 e8 hvF => ?_
  · refine et_Bd (ed_nk (N := 12) (p := TI.pt ⟨blurT l i.t, i.n, i.m⟩) (ea_consD (ed_blur (i := ⟨i, as, l⟩) (ea2 (ed_var rfl (dp_ex e8 _ _ ht7)) (ed_var rfl hu)) (qok l hl)) (ea2 (ed_var rfl (dp_ex e8 _ _ hr7)) (ed_var rfl (dp_ex e8 _ _ hc7)))) (pt_ok (bok l hl)) ?_)
    show (List.range i.n).length + (List.range i.m).length ≤ 12
    rw [List.length_range, List.length_range]
    omega
  · exact ed_tup (ea2 (ed_I0 (i := 0) (j := (l.length : Nat)) ed_int ((ed_lenT (ed_var rfl hu)).is (by rw [List.length_map])) fun _ => .int _) (ed_var rfl hu)) (Nat.le_of_ble_eq_true rfl)
  · rw [hF, List.map_cons]
  have ht8 := dp_ex e8 _ _ ht7
  have lmok := lawAll_ok _ han.asc lm fine.mem
  have lml := lmok.len
  have okF : okA 3 (tabD lm) := okA_tab (by have : lm.length ≤ as.length := lml; omega) fun x hx => by have : x.length ≤ as.length := lmok.xlen hx; omega
  have hall : AlikeAll (fineD l0 :: r.map fineD) := by
    rw [← List.map_cons]
    refine ⟨fun x hx y hy => ?_, fun x hx => ?_⟩
    · obtain ⟨x', _, rfl⟩ := List.mem_map.mp hx
      obtain ⟨y', _, rfl⟩ := List.mem_map.mp hy
      exact alike_fine x' y'
    · obtain ⟨x', _, rfl⟩ := List.mem_map.mp hx
      exact fun z => (by cases z)
  have hdep : PyData.depthAll (fineD l0 :: r.map fineD) ≤ 32 := by
    rw [← List.map_cons]
    have : ∀ A : List Lots, PyData.depthAll (A.map fineD) ≤ 3 := fun A => by
      induction A with
      | nil => simp [PyData.depthAll]
      | cons x A ih =>
        (rw [List.map_cons, PyData.depthAll])
        have := depth_fine x
        omega
    have := this (l0 :: r)
    omega
  refine q_when (et_not (et_Bd (ed_alike (N := 3) (d := tabD lm) (ea2 (ed_fine (i := ⟨i, as⟩) (ea1 (ed_var rfl ht8)) aok fine) (ed_ixT (ds := [.int (0 - (lm.length : Int)), tabD lm]) ((ed_minD (ed_var rfl hvF) hall hdep).is hmin) (ed_int (n := 1)) (atI_nat (j := 1) rfl))) okF))) (fun c => absurd c (by decide)) fun _ H9 e9 => ?_
  have ht9 := dp_ex e9 _ _ ht8
  have hva9 := dp_ex (e8.trans e9) _ _ hva7
  refine d_ret (K := K) ((ed_andV (a := true) (b := true) ((ed_isTrue (ed_told (i := ⟨blurT lm i.t, i.n, i.m⟩) (ea1 (ed_blur (i := ⟨i, as, lm⟩) (ea2 (ed_var rfl ht9) (ed_fine (i := ⟨i, as⟩) (ea1 (ed_var rfl ht9)) aok fine)) (qok lm fine.mem))) (bok lm fine.mem))).is (congrArg PyData.bool fine.told)) fun _ => (ed_eqB (ed_told (i := i) (ea1 (ed_var rfl ht9)) iok) (ed_eqI ((ed_lenT (ed_fine (i := ⟨i, as⟩) (ea1 (ed_var rfl ht9)) aok fine)).is (by rw [List.length_map])) ((ed_lenL (ed_var rfl hva9)).is (by rw [List.length_map])))).is ?_)) fun v HA eA hv => ?_
  · rw [told_len aok fine]
    refine congrArg PyData.bool ?_
    rw [beq_iff_eq]
    exact (nat_beq _ _).symm
  · rw [dp_bool hv]
    exact q HA
end
end K15
namespace K15
open PySem L2 Evl
/-- a def that stands under its name -/
def Hk (K : PySem.W.Frag) (mg : Str → Option Value) (x : Str) (i : Nat) (ps : List Str) : Prop := ∃ f fd, Fun K x x (top i) f fd ∧ mg x = some (.ref f) ∧ Binds K fd ps []
theorem mg_num {K : PySem.W.Frag} {h : Heap} {mg : Str → Option Value} {x : Str} {n : Int} {t : Tok} (X : K.In h) (G : h.Ns mainGlobals mg) (a : PySem.W.nsIn K mainGlobals x = some (some (.int n t))) : ∃ t, mg x = some (.int n t) := ⟨t, PySem.W.mg_of X G a⟩
theorem hk_mk {K : PySem.W.Frag} {h : Heap} {mg : Str → Option Value} {x : Str} {i : Nat} {ps : List Str} {f : Addr} {od an : Option Addr} {sl : Array (Option Value)} {oc kV dc pm cd ct : Value} (hb : ∀ (kV doc pm : Value) (an : Option Addr) (cdv ct : Value) (us : List Value), us.length = ps.length → bindArgs (PySem.W.fnOf x x (defArgs (top i)) (defBody (top i)) (defScope (top i)) .none kV doc pm an cdv ct) ⟨us, []⟩ = pure (ps.zip us))
    (X : K.In h) (G : h.Ns mainGlobals mg) (a : PySem.W.nsIn K mainGlobals x = some (some (.ref f))) (l : K.lookup f = some ⟨oc, od, .func (PySem.W.fnOf x x (defArgs (top i)) (defBody (top i)) (defScope (top i)) .none kV dc pm an cd ct), sl⟩)
    (c : PySem.W.codeIn K cd x = true) (k : PySem.W.keepIn K (.ref f) = true) : Hk K mg x i ps := by
  have F := fun_mk (st := top i) l c k
  exact ⟨f, _, F, PySem.W.mg_of X G a, F.binds hb⟩
theorem Hk.fn {P : Program} {w : World} {K : PySem.W.Frag} {mg : Str → Option Value} {base : Heap} {x : Str} {i k : Nat} {ps : List Str} {sp : Sp} (h : Hk K mg x i ps) (ok : ∀ f fd, Fun K x x (top i) f fd → FnOk P w K mg base CX0 k f fd ps sp) : Fn P w K mg base k x ps sp := by
  obtain ⟨f, fd, F, hm, hb⟩ := h
  exact ⟨f, fd, ok f fd F, hm, F.kp, hb⟩
theorem b_is_from (kV doc pm : Value) (an : Option Addr) (cdv ct : Value) (us : List Value) (hl : us.length = 3) : bindArgs (PySem.W.fnOf "is_from" "is_from" (defArgs (top 8)) (defBody (top 8)) (defScope (top 8)) .none kV doc pm an cdv ct) ⟨us, []⟩ = pure (List.zip (["value", "least", "most"] : List Str) us) := match us, hl with | [_, _, _], _ => rfl
theorem b_is_table (kV doc pm : Value) (an : Option Addr) (cdv ct : Value) (us : List Value) (hl : us.length = 1) : bindArgs (PySem.W.fnOf "is_table" "is_table" (defArgs (top 9)) (defBody (top 9)) (defScope (top 9)) .none kV doc pm an cdv ct) ⟨us, []⟩ = pure (List.zip (["value"] : List Str) us) := match us, hl with | [_], _ => rfl
theorem b_need_table (kV doc pm : Value) (an : Option Addr) (cdv ct : Value) (us : List Value) (hl : us.length = 1) : bindArgs (PySem.W.fnOf "need_table" "need_table" (defArgs (top 10)) (defBody (top 10)) (defScope (top 10)) .none kV doc pm an cdv ct) ⟨us, []⟩ = pure (List.zip (["value"] : List Str) us) := match us, hl with | [_], _ => rfl
theorem b_answers_in (kV doc pm : Value) (an : Option Addr) (cdv ct : Value) (us : List Value) (hl : us.length = 1) : bindArgs (PySem.W.fnOf "answers_in" "answers_in" (defArgs (top 11)) (defBody (top 11)) (defScope (top 11)) .none kV doc pm an cdv ct) ⟨us, []⟩ = pure (List.zip (["table"] : List Str) us) := match us, hl with | [_], _ => rfl
theorem b_turned_table (kV doc pm : Value) (an : Option Addr) (cdv ct : Value) (us : List Value) (hl : us.length = 1) : bindArgs (PySem.W.fnOf "turned_table" "turned_table" (defArgs (top 12)) (defBody (top 12)) (defScope (top 12)) .none kV doc pm an cdv ct) ⟨us, []⟩ = pure (List.zip (["table"] : List Str) us) := match us, hl with | [_], _ => rfl
theorem b_whole (kV doc pm : Value) (an : Option Addr) (cdv ct : Value) (us : List Value) (hl : us.length = 1) : bindArgs (PySem.W.fnOf "whole" "whole" (defArgs (top 13)) (defBody (top 13)) (defScope (top 13)) .none kV doc pm an cdv ct) ⟨us, []⟩ = pure (List.zip (["table"] : List Str) us) := match us, hl with | [_], _ => rfl
theorem b_is_lot (kV doc pm : Value) (an : Option Addr) (cdv ct : Value) (us : List Value) (hl : us.length = 2) : bindArgs (PySem.W.fnOf "is_lot" "is_lot" (defArgs (top 14)) (defBody (top 14)) (defScope (top 14)) .none kV doc pm an cdv ct) ⟨us, []⟩ = pure (List.zip (["value", "most"] : List Str) us) := match us, hl with | [_, _], _ => rfl
theorem b_is_one (kV doc pm : Value) (an : Option Addr) (cdv ct : Value) (us : List Value) (hl : us.length = 3) : bindArgs (PySem.W.fnOf "is_one" "is_one" (defArgs (top 15)) (defBody (top 15)) (defScope (top 15)) .none kV doc pm an cdv ct) ⟨us, []⟩ = pure (List.zip (["table", "rows", "columns"] : List Str) us) := match us, hl with | [_, _, _], _ => rfl
theorem b_are_near (kV doc pm : Value) (an : Option Addr) (cdv ct : Value) (us : List Value) (hl : us.length = 4) : bindArgs (PySem.W.fnOf "are_near" "are_near" (defArgs (top 16)) (defBody (top 16)) (defScope (top 16)) .none kV doc pm an cdv ct) ⟨us, []⟩ = pure (List.zip (["table", "one", "other", "columns"] : List Str) us) := match us, hl with | [_, _, _, _], _ => rfl
theorem b_row_lots (kV doc pm : Value) (an : Option Addr) (cdv ct : Value) (us : List Value) (hl : us.length = 3) : bindArgs (PySem.W.fnOf "row_lots" "row_lots" (defArgs (top 17)) (defBody (top 17)) (defScope (top 17)) .none kV doc pm an cdv ct) ⟨us, []⟩ = pure (List.zip (["table", "rows", "columns"] : List Str) us) := match us, hl with | [_, _, _], _ => rfl
theorem b_column_lots (kV doc pm : Value) (an : Option Addr) (cdv ct : Value) (us : List Value) (hl : us.length = 3) : bindArgs (PySem.W.fnOf "column_lots" "column_lots" (defArgs (top 18)) (defBody (top 18)) (defScope (top 18)) .none kV doc pm an cdv ct) ⟨us, []⟩ = pure (List.zip (["table", "rows", "columns"] : List Str) us) := match us, hl with | [_, _, _], _ => rfl
theorem b_next_parts (kV doc pm : Value) (an : Option Addr) (cdv ct : Value) (us : List Value) (hl : us.length = 3) : bindArgs (PySem.W.fnOf "next_parts" "next_parts" (defArgs (top 20)) (defBody (top 20)) (defScope (top 20)) .none kV doc pm an cdv ct) ⟨us, []⟩ = pure (List.zip (["table", "rows", "columns"] : List Str) us) := match us, hl with | [_, _, _], _ => rfl
theorem b_stuck_from (kV doc pm : Value) (an : Option Addr) (cdv ct : Value) (us : List Value) (hl : us.length = 3) : bindArgs (PySem.W.fnOf "stuck_from" "stuck_from" (defArgs (top 21)) (defBody (top 21)) (defScope (top 21)) .none kV doc pm an cdv ct) ⟨us, []⟩ = pure (List.zip (["table", "rows", "columns"] : List Str) us) := match us, hl with | [_, _, _], _ => rfl
theorem b_is_told (kV doc pm : Value) (an : Option Addr) (cdv ct : Value) (us : List Value) (hl : us.length = 1) : bindArgs (PySem.W.fnOf "is_told" "is_told" (defArgs (top 22)) (defBody (top 22)) (defScope (top 22)) .none kV doc pm an cdv ct) ⟨us, []⟩ = pure (List.zip (["table"] : List Str) us) := match us, hl with | [_], _ => rfl
theorem b_can_be_told (kV doc pm : Value) (an : Option Addr) (cdv ct : Value) (us : List Value) (hl : us.length = 1) : bindArgs (PySem.W.fnOf "can_be_told" "can_be_told" (defArgs (top 23)) (defBody (top 23)) (defScope (top 23)) .none kV doc pm an cdv ct) ⟨us, []⟩ = pure (List.zip (["table"] : List Str) us) := match us, hl with | [_], _ => rfl
theorem b_need_lots (kV doc pm : Value) (an : Option Addr) (cdv ct : Value) (us : List Value) (hl : us.length = 2) : bindArgs (PySem.W.fnOf "need_lots" "need_lots" (defArgs (top 26)) (defBody (top 26)) (defScope (top 26)) .none kV doc pm an cdv ct) ⟨us, []⟩ = pure (List.zip (["table", "value"] : List Str) us) := match us, hl with | [_, _], _ => rfl
theorem b_blurred_by (kV doc pm : Value) (an : Option Addr) (cdv ct : Value) (us : List Value) (hl : us.length = 2) : bindArgs (PySem.W.fnOf "blurred_by" "blurred_by" (defArgs (top 27)) (defBody (top 27)) (defScope (top 27)) .none kV doc pm an cdv ct) ⟨us, []⟩ = pure (List.zip (["table", "lots"] : List Str) us) := match us, hl with | [_, _], _ => rfl
theorem b_blurred (kV doc pm : Value) (an : Option Addr) (cdv ct : Value) (us : List Value) (hl : us.length = 2) : bindArgs (PySem.W.fnOf "blurred" "blurred" (defArgs (top 28)) (defBody (top 28)) (defScope (top 28)) .none kV doc pm an cdv ct) ⟨us, []⟩ = pure (List.zip (["table", "lots"] : List Str) us) := match us, hl with | [_, _], _ => rfl
theorem b_all_blurs (kV doc pm : Value) (an : Option Addr) (cdv ct : Value) (us : List Value) (hl : us.length = 1) : bindArgs (PySem.W.fnOf "all_blurs" "all_blurs" (defArgs (top 29)) (defBody (top 29)) (defScope (top 29)) .none kV doc pm an cdv ct) ⟨us, []⟩ = pure (List.zip (["answers"] : List Str) us) := match us, hl with | [_], _ => rfl
theorem b_finest_blur (kV doc pm : Value) (an : Option Addr) (cdv ct : Value) (us : List Value) (hl : us.length = 1) : bindArgs (PySem.W.fnOf "finest_blur" "finest_blur" (defArgs (top 30)) (defBody (top 30)) (defScope (top 30)) .none kV doc pm an cdv ct) ⟨us, []⟩ = pure (List.zip (["table"] : List Str) us) := match us, hl with | [_], _ => rfl
theorem b__law_taken (kV doc pm : Value) (an : Option Addr) (cdv ct : Value) (us : List Value) (hl : us.length = 2) : bindArgs (PySem.W.fnOf "_law_taken" "_law_taken" (defArgs (top 32)) (defBody (top 32)) (defScope (top 32)) .none kV doc pm an cdv ct) ⟨us, []⟩ = pure (List.zip (["_law_row", "_law_many"] : List Str) us) := match us, hl with | [_, _], _ => rfl
theorem b__law_pick (kV doc pm : Value) (an : Option Addr) (cdv ct : Value) (us : List Value) (hl : us.length = 2) : bindArgs (PySem.W.fnOf "_law_pick" "_law_pick" (defArgs (top 33)) (defBody (top 33)) (defScope (top 33)) .none kV doc pm an cdv ct) ⟨us, []⟩ = pure (List.zip (["_law_row", "_law_things"] : List Str) us) := match us, hl with | [_, _], _ => rfl
theorem b__law_alike (kV doc pm : Value) (an : Option Addr) (cdv ct : Value) (us : List Value) (hl : us.length = 2) : bindArgs (PySem.W.fnOf "_law_alike" "_law_alike" (defArgs (top 34)) (defBody (top 34)) (defScope (top 34)) .none kV doc pm an cdv ct) ⟨us, []⟩ = pure (List.zip (["_law_found", "_law_due"] : List Str) us) := match us, hl with | [_, _], _ => rfl
theorem b__law_table (kV doc pm : Value) (an : Option Addr) (cdv ct : Value) (us : List Value) (hl : us.length = 4) : bindArgs (PySem.W.fnOf "_law_table" "_law_table" (defArgs (top 35)) (defBody (top 35)) (defScope (top 35)) .none kV doc pm an cdv ct) ⟨us, []⟩ = pure (List.zip (["_law_row", "_law_high", "_law_wide", "_law_many"] : List Str) us) := match us, hl with | [_, _, _, _], _ => rfl
theorem b__law_turned (kV doc pm : Value) (an : Option Addr) (cdv ct : Value) (us : List Value) (hl : us.length = 1) : bindArgs (PySem.W.fnOf "_law_turned" "_law_turned" (defArgs (top 36)) (defBody (top 36)) (defScope (top 36)) .none kV doc pm an cdv ct) ⟨us, []⟩ = pure (List.zip (["_law_table_here"] : List Str) us) := match us, hl with | [_], _ => rfl
theorem b__law_whole (kV doc pm : Value) (an : Option Addr) (cdv ct : Value) (us : List Value) (hl : us.length = 1) : bindArgs (PySem.W.fnOf "_law_whole" "_law_whole" (defArgs (top 37)) (defBody (top 37)) (defScope (top 37)) .none kV doc pm an cdv ct) ⟨us, []⟩ = pure (List.zip (["_law_table_here"] : List Str) us) := match us, hl with | [_], _ => rfl
theorem b__law_lots (kV doc pm : Value) (an : Option Addr) (cdv ct : Value) (us : List Value) (hl : us.length = 3) : bindArgs (PySem.W.fnOf "_law_lots" "_law_lots" (defArgs (top 38)) (defBody (top 38)) (defScope (top 38)) .none kV doc pm an cdv ct) ⟨us, []⟩ = pure (List.zip (["_law_table_here", "_law_rows", "_law_columns"] : List Str) us) := match us, hl with | [_, _, _], _ => rfl
theorem b__law_one (kV doc pm : Value) (an : Option Addr) (cdv ct : Value) (us : List Value) (hl : us.length = 3) : bindArgs (PySem.W.fnOf "_law_one" "_law_one" (defArgs (top 39)) (defBody (top 39)) (defScope (top 39)) .none kV doc pm an cdv ct) ⟨us, []⟩ = pure (List.zip (["_law_table_here", "_law_rows", "_law_columns"] : List Str) us) := match us, hl with | [_, _, _], _ => rfl
theorem b__law_told (kV doc pm : Value) (an : Option Addr) (cdv ct : Value) (us : List Value) (hl : us.length = 3) : bindArgs (PySem.W.fnOf "_law_told" "_law_told" (defArgs (top 40)) (defBody (top 40)) (defScope (top 40)) .none kV doc pm an cdv ct) ⟨us, []⟩ = pure (List.zip (["_law_table_here", "_law_rows", "_law_columns"] : List Str) us) := match us, hl with | [_, _, _], _ => rfl
theorem b__law_heaps (kV doc pm : Value) (an : Option Addr) (cdv ct : Value) (us : List Value) (hl : us.length = 3) : bindArgs (PySem.W.fnOf "_law_heaps" "_law_heaps" (defArgs (top 41)) (defBody (top 41)) (defScope (top 41)) .none kV doc pm an cdv ct) ⟨us, []⟩ = pure (List.zip (["_law_row", "_law_things", "_law_most"] : List Str) us) := match us, hl with | [_, _, _], _ => rfl
theorem b__law_woven (kV doc pm : Value) (an : Option Addr) (cdv ct : Value) (us : List Value) (hl : us.length = 5) : bindArgs (PySem.W.fnOf "_law_woven" "_law_woven" (defArgs (top 42)) (defBody (top 42)) (defScope (top 42)) .none kV doc pm an cdv ct) ⟨us, []⟩ = pure (List.zip (["_law_row", "_law_table_here", "_law_rows", "_law_columns", "_law_free"] : List Str) us) := match us, hl with | [_, _, _, _, _], _ => rfl
theorem b__law_told_table (kV doc pm : Value) (an : Option Addr) (cdv ct : Value) (us : List Value) (hl : us.length = 3) : bindArgs (PySem.W.fnOf "_law_told_table" "_law_told_table" (defArgs (top 43)) (defBody (top 43)) (defScope (top 43)) .none kV doc pm an cdv ct) ⟨us, []⟩ = pure (List.zip (["_law_row", "_law_high", "_law_wide"] : List Str) us) := match us, hl with | [_, _, _], _ => rfl
theorem b__law_meets (kV doc pm : Value) (an : Option Addr) (cdv ct : Value) (us : List Value) (hl : us.length = 4) : bindArgs (PySem.W.fnOf "_law_meets" "_law_meets" (defArgs (top 44)) (defBody (top 44)) (defScope (top 44)) .none kV doc pm an cdv ct) ⟨us, []⟩ = pure (List.zip (["_law_table_here", "_law_one_here", "_law_other", "_law_columns"] : List Str) us) := match us, hl with | [_, _, _, _], _ => rfl
theorem b__law_joined (kV doc pm : Value) (an : Option Addr) (cdv ct : Value) (us : List Value) (hl : us.length = 1) : bindArgs (PySem.W.fnOf "_law_joined" "_law_joined" (defArgs (top 45)) (defBody (top 45)) (defScope (top 45)) .none kV doc pm an cdv ct) ⟨us, []⟩ = pure (List.zip (["_law_lots_here"] : List Str) us) := match us, hl with | [_], _ => rfl
theorem b__law_all_lots (kV doc pm : Value) (an : Option Addr) (cdv ct : Value) (us : List Value) (hl : us.length = 1) : bindArgs (PySem.W.fnOf "_law_all_lots" "_law_all_lots" (defArgs (top 46)) (defBody (top 46)) (defScope (top 46)) .none kV doc pm an cdv ct) ⟨us, []⟩ = pure (List.zip (["_law_answers"] : List Str) us) := match us, hl with | [_], _ => rfl
theorem b__law_blurred (kV doc pm : Value) (an : Option Addr) (cdv ct : Value) (us : List Value) (hl : us.length = 2) : bindArgs (PySem.W.fnOf "_law_blurred" "_law_blurred" (defArgs (top 47)) (defBody (top 47)) (defScope (top 47)) .none kV doc pm an cdv ct) ⟨us, []⟩ = pure (List.zip (["_law_table_here", "_law_lots_here"] : List Str) us) := match us, hl with | [_, _], _ => rfl
theorem b_law (kV doc pm : Value) (an : Option Addr) (cdv ct : Value) (us : List Value) (hl : us.length = 1) : bindArgs (PySem.W.fnOf "law" "law" (defArgs (top 48)) (defBody (top 48)) (defScope (top 48)) .none kV doc pm an cdv ct) ⟨us, []⟩ = pure (List.zip (["_law_script"] : List Str) us) := match us, hl with | [_], _ => rfl
/-- all defs of the program and of the law -/
structure All (K : PySem.W.Frag) (mg : Str → Option Value) : Prop where
  h_is_from : Hk K mg "is_from" 8 ["value", "least", "most"]
  h_is_table : Hk K mg "is_table" 9 ["value"]
  h_need_table : Hk K mg "need_table" 10 ["value"]
  h_answers_in : Hk K mg "answers_in" 11 ["table"]
  h_turned_table : Hk K mg "turned_table" 12 ["table"]
  h_whole : Hk K mg "whole" 13 ["table"]
  h_is_lot : Hk K mg "is_lot" 14 ["value", "most"]
  h_is_one : Hk K mg "is_one" 15 ["table", "rows", "columns"]
  h_are_near : Hk K mg "are_near" 16 ["table", "one", "other", "columns"]
  h_row_lots : Hk K mg "row_lots" 17 ["table", "rows", "columns"]
  h_column_lots : Hk K mg "column_lots" 18 ["table", "rows", "columns"]
  h_next_parts : Hk K mg "next_parts" 20 ["table", "rows", "columns"]
  h_stuck_from : Hk K mg "stuck_from" 21 ["table", "rows", "columns"]
  h_is_told : Hk K mg "is_told" 22 ["table"]
  h_can_be_told : Hk K mg "can_be_told" 23 ["table"]
  h_need_lots : Hk K mg "need_lots" 26 ["table", "value"]
  h_blurred_by : Hk K mg "blurred_by" 27 ["table", "lots"]
  h_blurred : Hk K mg "blurred" 28 ["table", "lots"]
  h_all_blurs : Hk K mg "all_blurs" 29 ["answers"]
  h_finest_blur : Hk K mg "finest_blur" 30 ["table"]
  h__law_taken : Hk K mg "_law_taken" 32 ["_law_row", "_law_many"]
  h__law_pick : Hk K mg "_law_pick" 33 ["_law_row", "_law_things"]
  h__law_alike : Hk K mg "_law_alike" 34 ["_law_found", "_law_due"]
  h__law_table : Hk K mg "_law_table" 35 ["_law_row", "_law_high", "_law_wide", "_law_many"]
  h__law_turned : Hk K mg "_law_turned" 36 ["_law_table_here"]
  h__law_whole : Hk K mg "_law_whole" 37 ["_law_table_here"]
  h__law_lots : Hk K mg "_law_lots" 38 ["_law_table_here", "_law_rows", "_law_columns"]
  h__law_one : Hk K mg "_law_one" 39 ["_law_table_here", "_law_rows", "_law_columns"]
  h__law_told : Hk K mg "_law_told" 40 ["_law_table_here", "_law_rows", "_law_columns"]
  h__law_heaps : Hk K mg "_law_heaps" 41 ["_law_row", "_law_things", "_law_most"]
  h__law_woven : Hk K mg "_law_woven" 42 ["_law_row", "_law_table_here", "_law_rows", "_law_columns", "_law_free"]
  h__law_told_table : Hk K mg "_law_told_table" 43 ["_law_row", "_law_high", "_law_wide"]
  h__law_meets : Hk K mg "_law_meets" 44 ["_law_table_here", "_law_one_here", "_law_other", "_law_columns"]
  h__law_joined : Hk K mg "_law_joined" 45 ["_law_lots_here"]
  h__law_all_lots : Hk K mg "_law_all_lots" 46 ["_law_answers"]
  h__law_blurred : Hk K mg "_law_blurred" 47 ["_law_table_here", "_law_lots_here"]
  h_law : Hk K mg "law" 48 ["_law_script"]
theorem law_ok {P : Program} {w : World} {K : PySem.W.Frag} {mg : Str → Option Value} {base : Heap} {fl : Addr} {fdl : FuncData} (B : Bi mg) (C : Co mg) (A : All K mg) (FL : Fun K "law" "law" (top 48) fl fdl) : FnOk P w K mg base CX0 30 fl fdl ["_law_script"] (spLaw K) := by
  have g_is_from : Fn P w K mg base 1 "is_from" ["value", "least", "most"] (spFrom K) := A.h_is_from.fn fun f fd F => ok_is_from (k := 0) F B C
  have g_is_table : Fn P w K mg base 2 "is_table" ["value"] (spIsTable K) := A.h_is_table.fn fun f fd F => ok_is_table (k := 1) F B C (g_is_from.mono (by decide))
  have g_need_table : Fn P w K mg base 3 "need_table" ["value"] (spNeedTable K) := A.h_need_table.fn fun f fd F => ok_need_table (k := 2) F B C (g_is_table.mono (by decide))
  have g_answers_in : Fn P w K mg base 4 "answers_in" ["table"] (spAns K) := A.h_answers_in.fn fun f fd F => ok_answers_in (k := 3) F B C (g_need_table.mono (by decide))
  have g_turned_table : Fn P w K mg base 1 "turned_table" ["table"] (spTurned K) := A.h_turned_table.fn fun f fd F => ok_turned_table (k := 0) F B C
  have g_whole : Fn P w K mg base 1 "whole" ["table"] (spWhole K) := A.h_whole.fn fun f fd F => ok_whole (k := 0) F B C
  have g_is_lot : Fn P w K mg base 2 "is_lot" ["value", "most"] (spLot K) := A.h_is_lot.fn fun f fd F => ok_is_lot (k := 1) F B C (g_is_from.mono (by decide))
  have g_is_one : Fn P w K mg base 1 "is_one" ["table", "rows", "columns"] (spOne K) := A.h_is_one.fn fun f fd F => ok_is_one (k := 0) F B C
  have g_are_near : Fn P w K mg base 1 "are_near" ["table", "one", "other", "columns"] (spNear K) := A.h_are_near.fn fun f fd F => ok_are_near (k := 0) F B C
  have g_row_lots : Fn P w K mg base 2 "row_lots" ["table", "rows", "columns"] (spRows K) := A.h_row_lots.fn fun f fd F => ok_row_lots (k := 1) F B C (g_are_near.mono (by decide))
  have g_column_lots : Fn P w K mg base 3 "column_lots" ["table", "rows", "columns"] (spCols K) := A.h_column_lots.fn fun f fd F => ok_column_lots (k := 2) F B C (g_turned_table.mono (by decide)) (g_row_lots.mono (by decide))
  have g_next_parts : Fn P w K mg base 4 "next_parts" ["table", "rows", "columns"] (spNext K) := A.h_next_parts.fn fun f fd F => ok_next_parts (k := 3) F B C (g_is_one.mono (by decide)) (g_row_lots.mono (by decide)) (g_column_lots.mono (by decide))
  have g_stuck_from : Fn P w K mg base 16 "stuck_from" ["table", "rows", "columns"] (spStuck K 12) := by
    obtain ⟨f, fd, F, hm, hb⟩ := A.h_stuck_from
    have r : ∀ N, FnOk P w K mg base CX0 (4 + N) f fd ["table", "rows", "columns"] (spStuck K N) := fun N => by
      induction N with
      | zero => exact FnOk.mono stuck_0 (by omega)
      | succ N ih => exact ok_stuck_from (k := 4 + N) F B C (g_next_parts.mono (by omega)) ⟨f, fd, ih, hm, F.kp, hb⟩
    exact ⟨f, fd, r 12, hm, F.kp, hb⟩
  have g_is_told : Fn P w K mg base 17 "is_told" ["table"] (spTold K) := A.h_is_told.fn fun f fd F => ok_is_told (k := 16) F B C (g_whole.mono (by decide)) (g_stuck_from.mono (by decide))
  have g_can_be_told : Fn P w K mg base 18 "can_be_told" ["table"] (spTold K) := A.h_can_be_told.fn fun f fd F => ok_can_be_told (k := 17) F B C (g_need_table.mono (by decide)) (g_is_told.mono (by decide))
  have g_need_lots : Fn P w K mg base 5 "need_lots" ["table", "value"] (spNeedLots K) := A.h_need_lots.fn fun f fd F => ok_need_lots (k := 4) F B C (g_is_lot.mono (by decide)) (g_answers_in.mono (by decide))
  have g_blurred_by : Fn P w K mg base 1 "blurred_by" ["table", "lots"] (spBlur K) := A.h_blurred_by.fn fun f fd F => ok_blurred_by (k := 0) F B C
  have g_blurred : Fn P w K mg base 6 "blurred" ["table", "lots"] (spBlur K) := A.h_blurred.fn fun f fd F => ok_blurred (k := 5) F B C (g_need_table.mono (by decide)) (g_need_lots.mono (by decide)) (g_blurred_by.mono (by decide))
  have g_all_blurs : Fn P w K mg base 1 "all_blurs" ["answers"] (spAll K) := A.h_all_blurs.fn fun f fd F => ok_all_blurs (k := 0) F B C
  have g_finest_blur : Fn P w K mg base 18 "finest_blur" ["table"] (spFine K) := A.h_finest_blur.fn fun f fd F => ok_finest_blur (k := 17) F B C (g_answers_in.mono (by decide)) (g_all_blurs.mono (by decide)) (g_blurred_by.mono (by decide)) (g_is_told.mono (by decide))
  have g__law_taken : Fn P w K mg base 1 "_law_taken" ["_law_row", "_law_many"] (spTaken K) := A.h__law_taken.fn fun f fd F => ok__law_taken (k := 0) F B C
  have g__law_pick : Fn P w K mg base 2 "_law_pick" ["_law_row", "_law_things"] (spPick K) := A.h__law_pick.fn fun f fd F => ok__law_pick (k := 1) F B C (g__law_taken.mono (by decide))
  have g__law_alike : Fn P w K mg base 3 "_law_alike" ["_law_found", "_law_due"] (spAlike K 3) := by
    obtain ⟨f, fd, F, hm, hb⟩ := A.h__law_alike
    have r : ∀ N, FnOk P w K mg base CX0 (0 + N) f fd ["_law_found", "_law_due"] (spAlike K N) := fun N => by
      induction N with
      | zero => exact FnOk.mono alike_0 (by omega)
      | succ N ih => exact ok__law_alike (k := 0 + N) F B C ⟨f, fd, ih, hm, F.kp, hb⟩
    exact ⟨f, fd, r 3, hm, F.kp, hb⟩
  have g__law_table : Fn P w K mg base 2 "_law_table" ["_law_row", "_law_high", "_law_wide", "_law_many"] (spTable K) := A.h__law_table.fn fun f fd F => ok__law_table (k := 1) F B C (g__law_taken.mono (by decide))
  have g__law_turned : Fn P w K mg base 1 "_law_turned" ["_law_table_here"] (spTurned K) := A.h__law_turned.fn fun f fd F => ok__law_turned (k := 0) F B C
  have g__law_whole : Fn P w K mg base 1 "_law_whole" ["_law_table_here"] (spWhole K) := A.h__law_whole.fn fun f fd F => ok__law_whole (k := 0) F B C
  have g__law_meets : Fn P w K mg base 1 "_law_meets" ["_law_table_here", "_law_one_here", "_law_other", "_law_columns"] (spNear K) := A.h__law_meets.fn fun f fd F => ok__law_meets (k := 0) F B C
  have g__law_lots : Fn P w K mg base 2 "_law_lots" ["_law_table_here", "_law_rows", "_law_columns"] (spLLots K) := A.h__law_lots.fn fun f fd F => ok__law_lots (k := 1) F B C (g__law_meets.mono (by decide))
  have g__law_one : Fn P w K mg base 1 "_law_one" ["_law_table_here", "_law_rows", "_law_columns"] (spOne K) := A.h__law_one.fn fun f fd F => ok__law_one (k := 0) F B C
  have g__law_told : Fn P w K mg base 14 "_law_told" ["_law_table_here", "_law_rows", "_law_columns"] (spLTold K 12) := by
    obtain ⟨f, fd, F, hm, hb⟩ := A.h__law_told
    have r : ∀ N, FnOk P w K mg base CX0 (2 + N) f fd ["_law_table_here", "_law_rows", "_law_columns"] (spLTold K N) := fun N => by
      induction N with
      | zero => exact FnOk.mono ltold_0 (by omega)
      | succ N ih => exact ok__law_told (k := 2 + N) F B C (g__law_one.mono (by omega)) (g__law_turned.mono (by omega)) (g__law_lots.mono (by omega)) ⟨f, fd, ih, hm, F.kp, hb⟩
    exact ⟨f, fd, r 12, hm, F.kp, hb⟩
  have g__law_heaps : Fn P w K mg base 2 "_law_heaps" ["_law_row", "_law_things", "_law_most"] (spHeaps K) := A.h__law_heaps.fn fun f fd F => ok__law_heaps (k := 1) F B C (g__law_taken.mono (by decide))
  have g__law_woven : Fn P w K mg base 14 "_law_woven" ["_law_row", "_law_table_here", "_law_rows", "_law_columns", "_law_free"] (spWoven K 12) := by
    obtain ⟨f, fd, F, hm, hb⟩ := A.h__law_woven
    have r : ∀ N, FnOk P w K mg base CX0 (2 + N) f fd ["_law_row", "_law_table_here", "_law_rows", "_law_columns", "_law_free"] (spWoven K N) := fun N => by
      induction N with
      | zero => exact FnOk.mono woven_0 (by omega)
      | succ N ih => exact ok__law_woven (k := 2 + N) F B C (g__law_taken.mono (by omega)) (g__law_heaps.mono (by omega)) ⟨f, fd, ih, hm, F.kp, hb⟩
    exact ⟨f, fd, r 12, hm, F.kp, hb⟩
  have g__law_told_table : Fn P w K mg base 15 "_law_told_table" ["_law_row", "_law_high", "_law_wide"] (spTT K) := A.h__law_told_table.fn fun f fd F => ok__law_told_table (k := 14) F B C (g__law_taken.mono (by decide)) (g__law_woven.mono (by decide)) (g__law_told.mono (by decide))
  have g__law_joined : Fn P w K mg base 1 "_law_joined" ["_law_lots_here"] (spJoin K) := A.h__law_joined.fn fun f fd F => ok__law_joined (k := 0) F B C
  have g__law_all_lots : Fn P w K mg base 1 "_law_all_lots" ["_law_answers"] (spLAll K) := A.h__law_all_lots.fn fun f fd F => ok__law_all_lots (k := 0) F B C
  have g__law_blurred : Fn P w K mg base 1 "_law_blurred" ["_law_table_here", "_law_lots_here"] (spBlur K) := A.h__law_blurred.fn fun f fd F => ok__law_blurred (k := 0) F B C
  exact ok_law (k := 29) FL B C (g__law_taken.mono (by decide)) (g__law_table.mono (by decide)) (g__law_told_table.mono (by decide)) (g__law_whole.mono (by decide)) (g__law_joined.mono (by decide)) (g__law_all_lots.mono (by decide)) (g__law_pick.mono (by decide)) (g__law_blurred.mono (by decide)) (g_blurred.mono (by decide)) (g__law_alike.mono (by decide)) (g__law_told.mono (by decide)) (g_finest_blur.mono (by decide)) (g_can_be_told.mono (by decide))
theorem law_end {P : Program} {w : World} {K : PySem.W.Frag} {h : Heap} {mg : Str → Option Value} {fa : Addr} (X : K.In h) (G : h.Ns mainGlobals mg) (hfa : mg "law" = some (.ref fa)) (B : Bi mg) (C : Co mg) (A : All K mg) :
    ∃ fd : FuncData, (∀ (s : Shared) (v : Value), BindsTo s fd ⟨[v], []⟩ [("_law_script", v)]) ∧ ∀ base : Heap, K.In base → base.Ns mainGlobals mg → FnOk P w K mg base CX0 30 fa fd ["_law_script"] (spLaw K) := by
  obtain ⟨f, fd, F, hm, _⟩ := A.h_law
  have e := hfa.symm.trans hm
  cases e
  refine ⟨fd, fun s v => ?_, fun base _ _ => ?_⟩
  · obtain ⟨oc, od, kV, doc, pm, an, cdv, ct, osl, rfl, lk, hcd⟩ := F.ex
    exact .of_eq (b_law kV doc pm an cdv ct [v] rfl)
  · exact law_ok B C A F
theorem walk {l : PySem.W.OpenLaw} {q : Program} {XP : (Str → Option Value) → Heap → Prop} {YP : World → Heap → Prop} {d : DefRec} {loose : List Str} {K : Params → PySem.W.Frag} (hn : l.most = some 63) (hdf : d.params.defaults = [])
    (hY : ∀ (w : World) (h : Heap), YP w h → (K w.params).In h) (hd : d.name = "law")
    (F : ∀ (w : World) (mg : Str → Option Value) (h : Heap), (K w.params).In h → h.Ns mainGlobals mg → Bi mg ∧ Co mg ∧ All (K w.params) mg) :
    PySem.W.WalkO q loose XP YP l.row.toRowW d [] (fun g us => PySem.call g us) :=
  L2.walk_of (n := 63) (k := 30) (x := "_law_script") (CX := fun _ => CX0) (sp := fun w => spLaw (K w.params)) hn (by decide) hdf ⟨rfl, by decide, by decide⟩ hY (fun w mg fa h KX G hm => by
    obtain ⟨B, C, A⟩ := F w mg h KX G
    rw [hd] at hm
    exact law_end KX G hm B C A) (fun _ _ a ns hl _ hS => ⟨a, ns, rfl, hS, hl, fun _ => rfl⟩) fun _ _ _ _ _ z => z
end K15
open PySem PyProof.Rows PySem.W
set_option maxRecDepth 100100 in
set_option maxHeartbeats 0 in
theorem PySem.Challenge.cw_nomoretold_k15_whole_blurs_holds : PySem.Challenge.rw_nomoretold_k15_whole_blurs.Holds := by
  w_on; o_law; k_head
  (case hw => w_witness2)
  k_fill
  refine K15.walk (l := PySem.Challenge.rw_nomoretold_k15_whole_blurs) rfl rfl (fun w h Y => PySem.W.kIn_of Y) rfl ?F
  case F =>
    intro w mg h KX G
    refine ⟨?B, ?C, ?A⟩
    case B =>
      constructor
      · refine' PySem.W.mg_none_of KX G ?zb0; (case zb0 => k_is)
      · refine' PySem.W.mg_none_of KX G ?zb1; (case zb1 => k_is)
      · refine' PySem.W.mg_none_of KX G ?zb2; (case zb2 => k_is)
      · refine' PySem.W.mg_none_of KX G ?zb3; (case zb3 => k_is)
      · refine' PySem.W.mg_none_of KX G ?zb4; (case zb4 => k_is)
      · refine' PySem.W.mg_none_of KX G ?zb5; (case zb5 => k_is)
      · refine' PySem.W.mg_none_of KX G ?zb6; (case zb6 => k_is)
      · refine' PySem.W.mg_none_of KX G ?zb7; (case zb7 => k_is)
      · refine' PySem.W.mg_none_of KX G ?zb8; (case zb8 => k_is)
      · refine' PySem.W.mg_none_of KX G ?zb9; (case zb9 => k_is)
      · refine' PySem.W.mg_none_of KX G ?zb10; (case zb10 => k_is)
      · refine' PySem.W.mg_none_of KX G ?zb11; (case zb11 => k_is)
      · refine' PySem.W.mg_none_of KX G ?zb12; (case zb12 => k_is)
      · refine' PySem.W.mg_none_of KX G ?zb13; (case zb13 => k_is)
      · refine' PySem.W.mg_none_of KX G ?zb14; (case zb14 => k_is)
      · refine' PySem.W.mg_none_of KX G ?zb15; (case zb15 => k_is)
      · refine' PySem.W.mg_none_of KX G ?zb16; (case zb16 => k_is)
    case C =>
      constructor
      · refine' K15.mg_num KX G ?zc0; (case zc0 => k_is)
      · refine' K15.mg_num KX G ?zc1; (case zc1 => k_is)
      · refine' K15.mg_num KX G ?zc2; (case zc2 => k_is)
    case A =>
      constructor
      · refine' K15.hk_mk K15.b_is_from KX G ?a8 ?l8 ?c8 ?k8; (case a8 => k_is); (case l8 => k_is); (case c8 => k_is); (case k8 => k_is)
      · refine' K15.hk_mk K15.b_is_table KX G ?a9 ?l9 ?c9 ?k9; (case a9 => k_is); (case l9 => k_is); (case c9 => k_is); (case k9 => k_is)
      · refine' K15.hk_mk K15.b_need_table KX G ?a10 ?l10 ?c10 ?k10; (case a10 => k_is); (case l10 => k_is); (case c10 => k_is); (case k10 => k_is)
      · refine' K15.hk_mk K15.b_answers_in KX G ?a11 ?l11 ?c11 ?k11; (case a11 => k_is); (case l11 => k_is); (case c11 => k_is); (case k11 => k_is)
      · refine' K15.hk_mk K15.b_turned_table KX G ?a12 ?l12 ?c12 ?k12; (case a12 => k_is); (case l12 => k_is); (case c12 => k_is); (case k12 => k_is)
      · refine' K15.hk_mk K15.b_whole KX G ?a13 ?l13 ?c13 ?k13; (case a13 => k_is); (case l13 => k_is); (case c13 => k_is); (case k13 => k_is)
      · refine' K15.hk_mk K15.b_is_lot KX G ?a14 ?l14 ?c14 ?k14; (case a14 => k_is); (case l14 => k_is); (case c14 => k_is); (case k14 => k_is)
      · refine' K15.hk_mk K15.b_is_one KX G ?a15 ?l15 ?c15 ?k15; (case a15 => k_is); (case l15 => k_is); (case c15 => k_is); (case k15 => k_is)
      · refine' K15.hk_mk K15.b_are_near KX G ?a16 ?l16 ?c16 ?k16; (case a16 => k_is); (case l16 => k_is); (case c16 => k_is); (case k16 => k_is)
      · refine' K15.hk_mk K15.b_row_lots KX G ?a17 ?l17 ?c17 ?k17; (case a17 => k_is); (case l17 => k_is); (case c17 => k_is); (case k17 => k_is)
      · refine' K15.hk_mk K15.b_column_lots KX G ?a18 ?l18 ?c18 ?k18; (case a18 => k_is); (case l18 => k_is); (case c18 => k_is); (case k18 => k_is)
      · refine' K15.hk_mk K15.b_next_parts KX G ?a20 ?l20 ?c20 ?k20; (case a20 => k_is); (case l20 => k_is); (case c20 => k_is); (case k20 => k_is)
      · refine' K15.hk_mk K15.b_stuck_from KX G ?a21 ?l21 ?c21 ?k21; (case a21 => k_is); (case l21 => k_is); (case c21 => k_is); (case k21 => k_is)
      · refine' K15.hk_mk K15.b_is_told KX G ?a22 ?l22 ?c22 ?k22; (case a22 => k_is); (case l22 => k_is); (case c22 => k_is); (case k22 => k_is)
      · refine' K15.hk_mk K15.b_can_be_told KX G ?a23 ?l23 ?c23 ?k23; (case a23 => k_is); (case l23 => k_is); (case c23 => k_is); (case k23 => k_is)
      · refine' K15.hk_mk K15.b_need_lots KX G ?a26 ?l26 ?c26 ?k26; (case a26 => k_is); (case l26 => k_is); (case c26 => k_is); (case k26 => k_is)
      · refine' K15.hk_mk K15.b_blurred_by KX G ?a27 ?l27 ?c27 ?k27; (case a27 => k_is); (case l27 => k_is); (case c27 => k_is); (case k27 => k_is)
      · refine' K15.hk_mk K15.b_blurred KX G ?a28 ?l28 ?c28 ?k28; (case a28 => k_is); (case l28 => k_is); (case c28 => k_is); (case k28 => k_is)
      · refine' K15.hk_mk K15.b_all_blurs KX G ?a29 ?l29 ?c29 ?k29; (case a29 => k_is); (case l29 => k_is); (case c29 => k_is); (case k29 => k_is)
      · refine' K15.hk_mk K15.b_finest_blur KX G ?a30 ?l30 ?c30 ?k30; (case a30 => k_is); (case l30 => k_is); (case c30 => k_is); (case k30 => k_is)
      · refine' K15.hk_mk K15.b__law_taken KX G ?a32 ?l32 ?c32 ?k32; (case a32 => k_is); (case l32 => k_is); (case c32 => k_is); (case k32 => k_is)
      · refine' K15.hk_mk K15.b__law_pick KX G ?a33 ?l33 ?c33 ?k33; (case a33 => k_is); (case l33 => k_is); (case c33 => k_is); (case k33 => k_is)
      · refine' K15.hk_mk K15.b__law_alike KX G ?a34 ?l34 ?c34 ?k34; (case a34 => k_is); (case l34 => k_is); (case c34 => k_is); (case k34 => k_is)
      · refine' K15.hk_mk K15.b__law_table KX G ?a35 ?l35 ?c35 ?k35; (case a35 => k_is); (case l35 => k_is); (case c35 => k_is); (case k35 => k_is)
      · refine' K15.hk_mk K15.b__law_turned KX G ?a36 ?l36 ?c36 ?k36; (case a36 => k_is); (case l36 => k_is); (case c36 => k_is); (case k36 => k_is)
      · refine' K15.hk_mk K15.b__law_whole KX G ?a37 ?l37 ?c37 ?k37; (case a37 => k_is); (case l37 => k_is); (case c37 => k_is); (case k37 => k_is)
      · refine' K15.hk_mk K15.b__law_lots KX G ?a38 ?l38 ?c38 ?k38; (case a38 => k_is); (case l38 => k_is); (case c38 => k_is); (case k38 => k_is)
      · refine' K15.hk_mk K15.b__law_one KX G ?a39 ?l39 ?c39 ?k39; (case a39 => k_is); (case l39 => k_is); (case c39 => k_is); (case k39 => k_is)
      · refine' K15.hk_mk K15.b__law_told KX G ?a40 ?l40 ?c40 ?k40; (case a40 => k_is); (case l40 => k_is); (case c40 => k_is); (case k40 => k_is)
      · refine' K15.hk_mk K15.b__law_heaps KX G ?a41 ?l41 ?c41 ?k41; (case a41 => k_is); (case l41 => k_is); (case c41 => k_is); (case k41 => k_is)
      · refine' K15.hk_mk K15.b__law_woven KX G ?a42 ?l42 ?c42 ?k42; (case a42 => k_is); (case l42 => k_is); (case c42 => k_is); (case k42 => k_is)
      · refine' K15.hk_mk K15.b__law_told_table KX G ?a43 ?l43 ?c43 ?k43; (case a43 => k_is); (case l43 => k_is); (case c43 => k_is); (case k43 => k_is)
      · refine' K15.hk_mk K15.b__law_meets KX G ?a44 ?l44 ?c44 ?k44; (case a44 => k_is); (case l44 => k_is); (case c44 => k_is); (case k44 => k_is)
      · refine' K15.hk_mk K15.b__law_joined KX G ?a45 ?l45 ?c45 ?k45; (case a45 => k_is); (case l45 => k_is); (case c45 => k_is); (case k45 => k_is)
      · refine' K15.hk_mk K15.b__law_all_lots KX G ?a46 ?l46 ?c46 ?k46; (case a46 => k_is); (case l46 => k_is); (case c46 => k_is); (case k46 => k_is)
      · refine' K15.hk_mk K15.b__law_blurred KX G ?a47 ?l47 ?c47 ?k47; (case a47 => k_is); (case l47 => k_is); (case c47 => k_is); (case k47 => k_is)
      · refine' K15.hk_mk K15.b_law KX G ?a48 ?l48 ?c48 ?k48; (case a48 => k_is); (case l48 => k_is); (case c48 => k_is); (case k48 => k_is)
