import PyProof.Rows.All
import Wide.All
import OpenK.AllK
import Wide.FinOn
import HandS.ForMost
import HandS.GenList
import KE.GoesEnum
import HandS.Iter
import HandS.Words
import HandS.Exc
import HandS.IsInst
import HandS.Property
import HandS.ClsMeth
import HandS.TupSets
import HandS.DictTup
import HandS.Style
import HandS.SortRule
import HandS.Deep
import HandS.TupLe
import HandS.Flow
import KE.DataMinMax
import KE.SortData
import PySem.Challenge.RW_latticeshapes_k31_whole_least_widths_of
set_option Elab.async false
set_option linter.all false
set_option maxRecDepth 100000
set_option maxHeartbeats 4000000
/-! Ge1: the convex hull by two half chains, in plain Lean. -/
namespace Geo
abbrev Pt := Int × Int
def cr (u v : Pt) : Int := u.1 * v.2 - u.2 * v.1
def turn (a b c : Pt) : Int := (b.1 - a.1) * (c.2 - b.2) - (b.2 - a.2) * (c.1 - b.1)
def dt (w p : Pt) : Int := w.1 * p.1 + w.2 * p.2
def sb (a b : Pt) : Pt := (a.1 - b.1, a.2 - b.2)
def Lx (a b : Pt) : Prop := a.1 < b.1 ∨ (a.1 = b.1 ∧ a.2 < b.2)
def Pos (v : Pt) : Prop := 0 < v.1 ∨ (v.1 = 0 ∧ 0 < v.2)
theorem lx_pos {a b : Pt} : Lx a b ↔ Pos (sb b a) := by
  unfold Lx Pos sb
  simp only
  omega
theorem lx_trans {a b c : Pt} (h : Lx a b) (h' : Lx b c) : Lx a c := by unfold Lx at *; omega
theorem lx_irrefl {a : Pt} : ¬ Lx a a := by unfold Lx; omega
theorem lx_ne {a b : Pt} (h : Lx a b) : a ≠ b := fun e => by rw [e] at h; exact lx_irrefl h
theorem turn_cr (a b c : Pt) : turn a b c = cr (sb b a) (sb c b) := rfl
theorem turn_cyc (a b c : Pt) : turn a b c = turn b c a := by unfold turn; grind
theorem turn_cr2 (a b c : Pt) : turn a b c = cr (sb b a) (sb c a) := by unfold turn cr sb; grind
/-- crosses are transitive on positive vectors -/
theorem cr_trans {b e a : Pt} (hb : Pos b) (he : Pos e) (ha : Pos a) (h1 : 0 ≤ cr b e) (h2 : 0 ≤ cr e a) : 0 ≤ cr b a := by
  unfold cr Pos at *
  obtain ⟨bx, bY⟩ := b
  obtain ⟨ex, ey⟩ := e
  obtain ⟨ax, ay⟩ := a
  simp only at *
  have id1 : ex * (bx * ay - bY * ax) = ax * (bx * ey - bY * ex) + bx * (ex * ay - ey * ax) := by grind
  have hax : 0 ≤ ax := by omega
  have hbx : 0 ≤ bx := by omega
  rcases he with he | ⟨he, hy⟩
  · have p1 : 0 ≤ ax * (bx * ey - bY * ex) := Int.mul_nonneg hax h1
    have p2 : 0 ≤ bx * (ex * ay - ey * ax) := Int.mul_nonneg hbx h2
    have p3 : 0 ≤ ex * (bx * ay - bY * ax) := by omega
    exact Int.nonneg_of_mul_nonneg_right (a := ex) (by rwa [Int.mul_comm] at p3 ⊢ <;> exact p3) he
  · subst he
    have e1 : 0 * ay - ey * ax = -(ey * ax) := by grind
    rw [e1] at h2
    have h3 : 0 ≤ ey * ax := Int.mul_nonneg (by omega) hax
    have h4 : ey * ax = 0 := by omega
    have h5 : ax = 0 := by
      rcases Int.mul_eq_zero.mp h4 with z | z
      · omega
      · exact z
    subst h5
    have h6 : 0 < ay := by omega
    have h7 : 0 ≤ bx * ay := Int.mul_nonneg hbx (by omega)
    have e2 : bx * ay - bY * 0 = bx * ay := by grind
    omega
theorem cr_trans1 {b e a : Pt} (hb : Pos b) (he : Pos e) (ha : Pos a) (h1 : 0 < cr b e) (h2 : 0 ≤ cr e a) : 0 < cr b a := by
  unfold cr Pos at *
  obtain ⟨bx, bY⟩ := b
  obtain ⟨ex, ey⟩ := e
  obtain ⟨ax, ay⟩ := a
  simp only at *
  have id1 : ex * (bx * ay - bY * ax) = ax * (bx * ey - bY * ex) + bx * (ex * ay - ey * ax) := by grind
  have hax : 0 ≤ ax := by omega
  have hbx : 0 < bx := by
    rcases hb with z | ⟨z, z2⟩
    · exact z
    · exfalso
      subst z
      have h3 : 0 ≤ bY * ex := Int.mul_nonneg (by omega) (by omega)
      have e1 : 0 * ey - bY * ex = -(bY * ex) := by grind
      omega
  rcases he with he | ⟨he, hy⟩
  · have p2 : 0 ≤ bx * (ex * ay - ey * ax) := Int.mul_nonneg (by omega) h2
    have p3 : 0 < ex * (bx * ay - bY * ax) := by
      rcases ha with z | ⟨z, z2⟩
      · have p1 : 0 < ax * (bx * ey - bY * ex) := Int.mul_pos z h1
        omega
      · subst z
        have p4 : 0 < bx * (ex * ay) := Int.mul_pos hbx (Int.mul_pos he z2)
        have e1 : bx * (ex * ay - ey * 0) = bx * (ex * ay) := by grind
        have e2 : (0 : Int) * (bx * ey - bY * ex) = 0 := by grind
        omega
    exact Int.pos_of_mul_pos_right (a := ex) p3 he
  · subst he
    have e1 : 0 * ay - ey * ax = -(ey * ax) := by grind
    rw [e1] at h2
    have h3 : 0 ≤ ey * ax := Int.mul_nonneg (by omega) hax
    have h4 : ey * ax = 0 := by omega
    have h5 : ax = 0 := by
      rcases Int.mul_eq_zero.mp h4 with z | z
      · omega
      · exact z
    subst h5
    have h6 : 0 < ay := by omega
    have h7 : 0 < bx * ay := Int.mul_pos hbx h6
    have e2 : bx * ay - bY * 0 = bx * ay := by grind
    omega
end Geo

/-! Ge2: one half of the hull: a stack, its top first. -/
namespace Geo
/-- while len(side) > 1 and turn(side[-2], side[-1], point) <= 0: side.pop() -/
def popL : List Pt → Pt → List Pt
  | b :: a :: r, c => if turn a b c ≤ 0 then popL (a :: r) c else b :: a :: r
  | s, _ => s
def half (way : List Pt) : List Pt := way.foldl (fun st c => c :: popL st c) []
theorem popL_nil (c : Pt) : popL [] c = [] := rfl
theorem popL_one (b c : Pt) : popL [b] c = [b] := rfl
theorem popL_two (b a : Pt) (r : List Pt) (c : Pt) : popL (b :: a :: r) c = if turn a b c ≤ 0 then popL (a :: r) c else b :: a :: r := rfl

/-- later ones are lesser -/
def Desc (st : List Pt) : Prop := st.Pairwise (fun x y => Lx y x)
/-- all triples turn left -/
def T3 (st : List Pt) : Prop := ∀ x y z, [x, y, z].Sublist st → 0 < turn z y x
theorem popL_suffix : ∀ (st : List Pt) (c : Pt), ∃ l, st = l ++ popL st c
  | [], _ => ⟨[], rfl⟩
  | [b], _ => ⟨[], rfl⟩
  | b :: a :: r, c => by
    rw [popL_two]
    split
    · obtain ⟨l, e⟩ := popL_suffix (a :: r) c
      exact ⟨b :: l, by rw [List.cons_append, ← e]⟩
    · exact ⟨[], rfl⟩
theorem popL_sub (st : List Pt) (c : Pt) : (popL st c).Sublist st := by
  obtain ⟨l, e⟩ := popL_suffix st c
  have q := List.sublist_append_right l (popL st c)
  rw [← e] at q
  exact q
theorem popL_mem {st : List Pt} {c x : Pt} (h : x ∈ popL st c) : x ∈ st := (popL_sub st c).subset h
theorem popL_ne {st : List Pt} (c : Pt) (h : st ≠ []) : popL st c ≠ [] := by
  match st, h with
  | [b], _ => simp [popL_one]
  | b :: a :: r, _ =>
    rw [popL_two]
    split
    · exact popL_ne c (by simp)
    · simp
termination_by st.length
theorem popL_last {st : List Pt} (c : Pt) (h : st ≠ []) : (popL st c).getLast? = st.getLast? := by
  obtain ⟨l, e⟩ := popL_suffix st c
  have hn := popL_ne c h
  have q : (l ++ popL st c).getLast? = (popL st c).getLast? := by
    rw [List.getLast?_append]
    cases z : (popL st c).getLast? with
    | none => exact absurd (List.getLast?_eq_none_iff.mp z) hn
    | some v => rfl
  rw [← q, ← e]
/-- what is left: one point, or the last turn is left -/
theorem popL_end : ∀ (st : List Pt) (c : Pt), ∀ b a r, popL st c = b :: a :: r → 0 < turn a b c
  | [], _, _, _, _, h => by cases h
  | [b], _, _, _, _, h => by simp [popL_one] at h
  | b :: a :: r, c, b', a', r', h => by
    rw [popL_two] at h
    split at h
    · exact popL_end (a :: r) c b' a' r' h
    · rename_i hn
      simp only [List.cons.injEq] at h
      obtain ⟨rfl, rfl, rfl⟩ := h
      omega

theorem turn_add {z y b c : Pt} (hzy : Lx z y) (hyb : Lx y b) (hbc : Lx b c) (h1 : 0 < turn z y b) (h2 : 0 < turn y b c) : 0 < turn z y c ∧ 0 < turn z b c := by
  have q : 0 < cr (sb y z) (sb c b) := cr_trans1 (lx_pos.mp hzy) (lx_pos.mp hyb) (lx_pos.mp hbc) h1 (Int.le_of_lt h2)
  have e1 : turn z y c = turn z y b + cr (sb y z) (sb c b) := by unfold turn cr sb; grind
  have e2 : turn z b c = cr (sb y z) (sb c b) + turn y b c := by unfold turn cr sb; grind
  omega
theorem push_T3 {st : List Pt} {c : Pt} (hd : Desc st) (ht : T3 st) (hc : ∀ x ∈ st, Lx x c) : T3 (c :: popL st c) := by
  have hsub := popL_sub st c
  have hend := popL_end st c
  generalize popL st c = s at hsub hend
  have hd' : Desc s := List.Pairwise.sublist hsub hd
  have ht' : T3 s := fun x y z h => ht x y z (h.trans hsub)
  have hc' : ∀ x ∈ s, Lx x c := fun x h => hc x (hsub.subset h)
  intro x y z h
  rcases List.sublist_cons_iff.mp h with h | ⟨r, e, h⟩
  · exact ht' x y z h
  · simp only [List.cons.injEq] at e
    obtain ⟨rfl, rfl⟩ := e
    -- y before z in s; show 0 < turn z y x
    match s, h, hd', ht', hc', hend with
    | [], h, _, _, _, _ => simp at h
    | [b], h, _, _, _, _ => exact absurd h.length_le (by simp)
    | b :: a :: r', h, hd', ht', hc', hend =>
      have hab : 0 < turn a b x := hend b a r' rfl
      have hbx : Lx b x := hc' b (by simp)
      have hdb : ∀ p ∈ a :: r', Lx p b := (List.pairwise_cons.mp hd').1
      have hda : ∀ p ∈ r', Lx p a := (List.pairwise_cons.mp (List.pairwise_cons.mp hd').2).1
      -- any p below b turns left with b, x
      have one : ∀ p ∈ a :: r', 0 < turn p b x := fun p hp => by
        rcases List.mem_cons.mp hp with e | hp
        · rw [e]; exact hab
        · have h3 : 0 < turn p a b := ht' b a p (by
            refine List.Sublist.cons_cons _ (List.Sublist.cons_cons _ ?_)
            exact List.singleton_sublist.mpr hp)
          exact (turn_add (hda p hp) (hdb a (by simp)) hbx h3 hab).2
      rcases List.sublist_cons_iff.mp h with h | ⟨r2, e, h⟩
      · -- y, z both below b
        have hy : y ∈ a :: r' := h.subset (by simp)
        have hzy : Lx z y := by
          have q := (List.pairwise_cons.mp hd').2
          exact List.pairwise_iff_forall_sublist.mp q h
        have h3 : 0 < turn z y b := ht' b y z (List.Sublist.cons_cons _ h)
        exact (turn_add hzy (hdb y hy) hbx h3 (one y hy)).1
      · simp only [List.cons.injEq] at e
        obtain ⟨rfl, rfl⟩ := e
        exact one z (List.singleton_sublist.mp h)
theorem push_Desc {st : List Pt} {c : Pt} (hd : Desc st) (hc : ∀ x ∈ st, Lx x c) : Desc (c :: popL st c) :=
  List.pairwise_cons.mpr ⟨fun x h => hc x (popL_mem h), List.Pairwise.sublist (popL_sub st c) hd⟩
/-- a popped point is dominated, in every direction that does not point up -/
theorem dom_mid {w a b c : Pt} (hw : w.2 ≤ 0) (hab : Lx a b) (hbc : Lx b c) (h : turn a b c ≤ 0) : dt w b ≤ dt w a ∨ dt w b ≤ dt w c := by
  obtain ⟨a1, a2⟩ := a
  obtain ⟨b1, b2⟩ := b
  obtain ⟨c1, c2⟩ := c
  obtain ⟨w1, w2⟩ := w
  unfold turn Lx dt at *
  simp only at *
  cases Int.lt_or_le (w1 * a1 + w2 * a2) (w1 * b1 + w2 * b2) with
  | inr z => exact .inl z
  | inl p1 =>
    cases Int.lt_or_le (w1 * c1 + w2 * c2) (w1 * b1 + w2 * b2) with
    | inr z => exact .inr z
    | inl p2 =>
      exfalso
      have x1 : 0 ≤ b1 - a1 := by omega
      have x2 : 0 ≤ c1 - b1 := by omega
      have q1 : 0 < w1 * (b1 - a1) + w2 * (b2 - a2) := by
        have e : w1 * (b1 - a1) + w2 * (b2 - a2) = (w1 * b1 + w2 * b2) - (w1 * a1 + w2 * a2) := by grind
        omega
      have q2 : w1 * (c1 - b1) + w2 * (c2 - b2) < 0 := by
        have e : w1 * (c1 - b1) + w2 * (c2 - b2) = (w1 * c1 + w2 * c2) - (w1 * b1 + w2 * b2) := by grind
        omega
      have id1 : (c1 - b1) * (w1 * (b1 - a1) + w2 * (b2 - a2)) - (b1 - a1) * (w1 * (c1 - b1) + w2 * (c2 - b2)) = (-w2) * ((b1 - a1) * (c2 - b2) - (b2 - a2) * (c1 - b1)) := by grind
      have r1 : (-w2) * ((b1 - a1) * (c2 - b2) - (b2 - a2) * (c1 - b1)) ≤ 0 := Int.mul_nonpos_of_nonneg_of_nonpos (by omega) h
      have r2 : 0 ≤ (c1 - b1) * (w1 * (b1 - a1) + w2 * (b2 - a2)) := Int.mul_nonneg x2 (Int.le_of_lt q1)
      have r3 : (b1 - a1) * (w1 * (c1 - b1) + w2 * (c2 - b2)) ≤ 0 := Int.mul_nonpos_of_nonneg_of_nonpos x1 (Int.le_of_lt q2)
      have s1 : (c1 - b1) * (w1 * (b1 - a1) + w2 * (b2 - a2)) = 0 := by omega
      have s2 : (b1 - a1) * (w1 * (c1 - b1) + w2 * (c2 - b2)) = 0 := by omega
      have t1 : c1 - b1 = 0 := by
        rcases Int.mul_eq_zero.mp s1 with z | z
        · exact z
        · omega
      have t2 : b1 - a1 = 0 := by
        rcases Int.mul_eq_zero.mp s2 with z | z
        · exact z
        · omega
      rw [t2] at q1
      have e3 : w1 * 0 + w2 * (b2 - a2) = w2 * (b2 - a2) := by grind
      rw [e3] at q1
      have q3 : w2 * (b2 - a2) ≤ 0 := Int.mul_nonpos_of_nonpos_of_nonneg hw (by omega)
      omega
theorem dom_pop {w c : Pt} (hw : w.2 ≤ 0) : ∀ (st : List Pt), Desc st → (∀ x ∈ st, Lx x c) → ∀ p ∈ st, ∃ s ∈ c :: popL st c, dt w p ≤ dt w s
  | [], _, _, p, h => by cases h
  | [b], _, _, p, h => ⟨p, by rw [popL_one]; exact List.mem_cons_of_mem _ h, Int.le_refl _⟩
  | b :: a :: r, hd, hc, p, h => by
    rw [popL_two]
    split
    · rename_i ht
      have hd2 := (List.pairwise_cons.mp hd).2
      have hba : Lx a b := (List.pairwise_cons.mp hd).1 a (by simp)
      have ih := dom_pop hw (a :: r) hd2 fun x hx => hc x (List.mem_cons_of_mem _ hx)
      rcases List.mem_cons.mp h with e | h
      · subst e
        rcases dom_mid hw hba (hc p (by simp)) ht with z | z
        · obtain ⟨s, hs, q⟩ := ih a (by simp)
          exact ⟨s, hs, Int.le_trans z q⟩
        · exact ⟨c, by simp, z⟩
      · exact ih p h
    · exact ⟨p, List.mem_cons_of_mem _ h, Int.le_refl _⟩

/-- one half, whole -/
structure HalfOk (o st : List Pt) : Prop where
  desc : Desc st
  t3 : T3 st
  sub : ∀ x ∈ st, x ∈ o
  dom : ∀ w p, w.2 ≤ 0 → p ∈ o → ∃ s ∈ st, dt w p ≤ dt w s
  top : st.head? = o.getLast?
  bot : st.getLast? = o.head?
  len : st.length ≤ o.length
theorem half_snoc (o : List Pt) (c : Pt) : half (o ++ [c]) = c :: popL (half o) c := by
  unfold half
  rw [List.foldl_append]
  rfl
theorem half_ok_aux : ∀ (n : Nat) (o : List Pt), o.length = n → o.Pairwise Lx → HalfOk o (half o)
  | 0, o, hn, _ => by
    have e : o = [] := List.eq_nil_of_length_eq_zero hn
    subst e
    exact ⟨.nil, fun x y z h => by simp [half] at h, fun x h => by simp [half] at h, fun w p _ h => (by cases h), rfl, rfl, Nat.le_refl _⟩
  | n + 1, o, hn, ho => by
    have hne : o ≠ [] := fun e => by rw [e] at hn; simp at hn
    obtain ⟨o', c, rfl⟩ : ∃ o' c, o = o' ++ [c] := ⟨o.dropLast, o.getLast hne, (List.dropLast_concat_getLast hne).symm⟩
    have hl : o'.length = n := by simpa using hn
    obtain ⟨h1, _, h3⟩ := List.pairwise_append.mp ho
    have ih := half_ok_aux n o' hl h1
    rw [half_snoc]
    have hc : ∀ x ∈ half o', Lx x c := fun x hx => h3 x (ih.sub x hx) c (by simp)
    refine ⟨push_Desc ih.desc hc, push_T3 ih.desc ih.t3 hc, fun x hx => ?_, fun w p hw hp => ?_, by simp, ?_, ?_⟩
    · rcases List.mem_cons.mp hx with e | hx
      · rw [e]; simp
      · exact List.mem_append_left _ (ih.sub x (popL_mem hx))
    · rcases List.mem_append.mp hp with hp | hp
      · obtain ⟨s, hs, q⟩ := ih.dom w p hw hp
        obtain ⟨s', hs', q'⟩ := dom_pop hw _ ih.desc hc s hs
        exact ⟨s', hs', Int.le_trans q q'⟩
      · rw [List.mem_singleton.mp hp]; exact ⟨c, by simp, Int.le_refl _⟩
    · by_cases z : half o' = []
      · have e : o' = [] := by
          cases o' with
          | nil => rfl
          | cons x r =>
            have q := ih.bot
            rw [z] at q
            simp at q
        subst e
        rw [z]
        rfl
      · have e1 : (c :: popL (half o') c).getLast? = (popL (half o') c).getLast? := by
          cases h : popL (half o') c with
          | nil => exact absurd h (popL_ne c z)
          | cons x r => simp [List.getLast?_cons_cons]
        rw [e1, popL_last c z, ih.bot]
        cases o' with
        | nil => simp [half] at z
        | cons x r => simp
    · have := (popL_sub (half o') c).length_le
      have := ih.len
      simp
      omega
theorem half_ok {o : List Pt} (ho : o.Pairwise Lx) : HalfOk o (half o) := half_ok_aux _ o rfl ho
end Geo

/-! Ge3: both halves: a strictly convex polygon. -/
namespace Geo
def neg (p : Pt) : Pt := (-p.1, -p.2)
theorem neg_neg (p : Pt) : neg (neg p) = p := by unfold neg; simp
theorem turn_neg (a b c : Pt) : turn (neg a) (neg b) (neg c) = turn a b c := by unfold turn neg; grind
theorem lx_neg {a b : Pt} : Lx (neg a) (neg b) ↔ Lx b a := by unfold Lx neg; simp only; omega
theorem dt_neg (w p : Pt) : dt (neg w) (neg p) = dt w p := by unfold dt neg; grind
theorem popL_neg : ∀ (st : List Pt) (c : Pt), popL (st.map neg) (neg c) = (popL st c).map neg
  | [], _ => rfl
  | [b], _ => rfl
  | b :: a :: r, c => by
    have ih := popL_neg (a :: r) c
    simp only [List.map_cons] at ih ⊢
    rw [popL_two, popL_two, turn_neg, ih]
    split <;> simp
theorem half_neg_aux : ∀ (n : Nat) (o : List Pt), o.length = n → half (o.map neg) = (half o).map neg
  | 0, o, hn => by
    rw [List.eq_nil_of_length_eq_zero hn]
    rfl
  | n + 1, o, hn => by
    have hne : o ≠ [] := fun e => by rw [e] at hn; simp at hn
    obtain ⟨o', c, rfl⟩ : ∃ o' c, o = o' ++ [c] := ⟨o.dropLast, o.getLast hne, (List.dropLast_concat_getLast hne).symm⟩
    have hl : o'.length = n := by simpa using hn
    rw [List.map_append, List.map_cons, List.map_nil, half_snoc, half_snoc, half_neg_aux n o' hl, popL_neg]
    rfl
theorem half_neg (o : List Pt) : half (o.map neg) = (half o).map neg := half_neg_aux _ o rfl

/-- the upper half, seen upside down -/
theorem upper_ok {o : List Pt} (ho : o.Pairwise Lx) : HalfOk (o.reverse.map neg) ((half o.reverse).map neg) := by
  rw [← half_neg]
  refine half_ok ?_
  rw [List.pairwise_map, List.pairwise_reverse]
  exact ho.imp fun h => lx_neg.mpr h

/-- a half as a chain from the least point to the greatest -/
structure Arc (o A : List Pt) : Prop where
  asc : A.Pairwise Lx
  t3 : ∀ x y z, [x, y, z].Sublist A → 0 < turn x y z
  sub : ∀ x ∈ A, x ∈ o
  dom : ∀ w p, w.2 ≤ 0 → p ∈ o → ∃ s ∈ A, dt w p ≤ dt w s
  fst : A.head? = o.head?
  lst : A.getLast? = o.getLast?
  len : A.length ≤ o.length
theorem arc_of {o st : List Pt} (h : HalfOk o st) : Arc o st.reverse where
  asc := List.pairwise_reverse.mpr h.desc
  t3 := fun x y z hs => h.t3 z y x (by
    have q := List.reverse_sublist.mpr hs
    simpa using q)
  sub := fun x hx => h.sub x (List.mem_reverse.mp hx)
  dom := fun w p hw hp => by
    obtain ⟨s, hs, q⟩ := h.dom w p hw hp
    exact ⟨s, List.mem_reverse.mpr hs, q⟩
  fst := by rw [List.head?_reverse]; exact h.bot
  lst := by rw [List.getLast?_reverse]; exact h.top
  len := by rw [List.length_reverse]; exact h.len

/-! ### places -/
def at' (l : List Pt) (i : Nat) : Pt := l.getD i (0, 0)
theorem at_eq {l : List Pt} {i : Nat} (h : i < l.length) : at' l i = l[i] := by unfold at'; simp [List.getD, h]
theorem at_mem {l : List Pt} {i : Nat} (h : i < l.length) : at' l i ∈ l := by rw [at_eq h]; exact List.getElem_mem h
theorem mem_at {l : List Pt} {x : Pt} (h : x ∈ l) : ∃ i, i < l.length ∧ at' l i = x := by
  obtain ⟨i, hi, e⟩ := List.mem_iff_getElem.mp h
  exact ⟨i, hi, by rw [at_eq hi]; exact e⟩
theorem sub2 : ∀ (l : List Pt) (i j : Nat), i < j → j < l.length → [at' l i, at' l j].Sublist l
  | [], _, _, _, h => by simp at h
  | x :: r, 0, j + 1, _, h => by
    have e : at' (x :: r) (j + 1) = at' r j := rfl
    have hj : j < r.length := by simpa using h
    rw [e]
    exact List.Sublist.cons_cons _ (List.singleton_sublist.mpr (at_mem hj))
  | x :: r, i + 1, j + 1, hij, h => List.Sublist.cons _ (sub2 r i j (by omega) (by simpa using h))
theorem sub3 : ∀ (l : List Pt) (i j k : Nat), i < j → j < k → k < l.length → [at' l i, at' l j, at' l k].Sublist l
  | [], _, _, _, _, _, h => by simp at h
  | x :: r, 0, j + 1, k + 1, _, hjk, h => List.Sublist.cons_cons _ (sub2 r j k (by omega) (by simpa using h))
  | x :: r, i + 1, j + 1, k + 1, hij, hjk, h => List.Sublist.cons _ (sub3 r i j k (by omega) (by omega) (by simpa using h))
section
variable {o A : List Pt}
theorem Arc.lt (h : Arc o A) {i j : Nat} (hij : i < j) (hj : j < A.length) : Lx (at' A i) (at' A j) := List.pairwise_iff_forall_sublist.mp h.asc (sub2 A i j hij hj)
theorem Arc.turn3 (h : Arc o A) {i j k : Nat} (hij : i < j) (hjk : j < k) (hk : k < A.length) : 0 < turn (at' A i) (at' A j) (at' A k) := h.t3 _ _ _ (sub3 A i j k hij hjk hk)
/-- of its own points: strictly left of each edge -/
theorem Arc.own (h : Arc o A) {i k : Nat} (hi : i + 1 < A.length) (hk : k < A.length) (h1 : k ≠ i) (h2 : k ≠ i + 1) : 0 < turn (at' A i) (at' A (i + 1)) (at' A k) := by
  by_cases z : k < i
  · rw [turn_cyc, turn_cyc]
    exact h.turn3 z (Nat.lt_add_one i) hi
  · exact h.turn3 (Nat.lt_add_one i) (by omega) hk
/-- of all points: none right of an edge -/
theorem Arc.weak (h : Arc o A) {i : Nat} (hi : i + 1 < A.length) {p : Pt} (hp : p ∈ o) : 0 ≤ turn (at' A i) (at' A (i + 1)) p := by
  have hlt := h.lt (Nat.lt_add_one i) hi
  have hw : (at' A (i + 1)).1 - (at' A i).1 ≥ 0 := by unfold Lx at hlt; omega
  obtain ⟨s, hs, q⟩ := h.dom ((at' A (i + 1)).2 - (at' A i).2, -((at' A (i + 1)).1 - (at' A i).1)) p (by simp only; omega) hp
  obtain ⟨k, hk, rfl⟩ := mem_at hs
  have key : 0 ≤ turn (at' A i) (at' A (i + 1)) (at' A k) := by
    by_cases z1 : k = i
    · subst z1; unfold turn; grind
    · by_cases z2 : k = i + 1
      · subst z2; unfold turn; grind
      · exact Int.le_of_lt (h.own hi hk z1 z2)
  have e1 : turn (at' A i) (at' A (i + 1)) p = turn (at' A i) (at' A (i + 1)) (at' A k) + (dt ((at' A (i + 1)).2 - (at' A i).2, -((at' A (i + 1)).1 - (at' A i).1)) (at' A k) - dt ((at' A (i + 1)).2 - (at' A i).2, -((at' A (i + 1)).1 - (at' A i).1)) p) := by
    unfold turn dt; grind
  omega
/-- a point where the other half turns: strictly left of each edge -/
theorem Arc.other (h : Arc o A) {i : Nat} (hi : i + 1 < A.length) {u v w : Pt} (hu : u ∈ o) (hv : v ∈ o) (hw : w ∈ o) (huv : Lx v u) (hvw : Lx w v) (ht : 0 < turn u v w) : 0 < turn (at' A i) (at' A (i + 1)) v := by
  have q0 := h.weak hi hv
  by_cases z : turn (at' A i) (at' A (i + 1)) v = 0
  · exfalso
    have he : Pos (sb (at' A (i + 1)) (at' A i)) := lx_pos.mp (h.lt (Nat.lt_add_one i) hi)
    have q1 := h.weak hi hu
    have q2 := h.weak hi hw
    have e1 : turn (at' A i) (at' A (i + 1)) u = turn (at' A i) (at' A (i + 1)) v + cr (sb (at' A (i + 1)) (at' A i)) (sb u v) := by unfold turn cr sb; grind
    have e2 : turn (at' A i) (at' A (i + 1)) v = turn (at' A i) (at' A (i + 1)) w + cr (sb (at' A (i + 1)) (at' A i)) (sb v w) := by unfold turn cr sb; grind
    have e3 : cr (sb v w) (sb (at' A (i + 1)) (at' A i)) = -(cr (sb (at' A (i + 1)) (at' A i)) (sb v w)) := by unfold cr sb; grind
    have e4 : turn u v w = -(cr (sb v w) (sb u v)) := by unfold turn cr sb; grind
    have q3 := cr_trans (lx_pos.mp hvw) he (lx_pos.mp huv) (by omega) (by omega)
    omega
  · omega
end
end Geo

/-! Ge4: the chain of both halves. -/
namespace Geo
def chain (o : List Pt) : List Pt := (half o).reverse.dropLast ++ (half o.reverse).reverse.dropLast
structure Good (cs o : List Pt) : Prop where
  three : 3 ≤ cs.length
  most : cs.length + 2 ≤ 2 * o.length
  left : ∀ i k, i < cs.length → k < cs.length → k ≠ i → k ≠ (i + 1) % cs.length → 0 < turn (at' cs i) (at' cs ((i + 1) % cs.length)) (at' cs k)
  least : ∀ k, 0 < k → k < cs.length → Lx (at' cs 0) (at' cs k)
  sub : ∀ c ∈ cs, c ∈ o
  sup : ∀ w p, p ∈ o → ∃ c ∈ cs, dt w p ≤ dt w c

theorem at_app1 {l r : List Pt} {i : Nat} (h : i < l.length) : at' (l ++ r) i = at' l i := by unfold at'; simp [List.getD, List.getElem?_append, h]
theorem at_app2 {l r : List Pt} {i : Nat} (h : l.length ≤ i) : at' (l ++ r) i = at' r (i - l.length) := by
  unfold at'
  have : ¬ i < l.length := by omega
  simp [List.getD, List.getElem?_append, this]
theorem at_drop {l : List Pt} {i : Nat} (h : i + 1 < l.length) : at' l.dropLast i = at' l i := by
  rw [at_eq (by simp; omega), at_eq (by omega)]
  simp
theorem at_map {l : List Pt} {i : Nat} (h : i < l.length) : at' (l.map neg) i = neg (at' l i) := by
  rw [at_eq h, at_eq (by simpa using h)]
  simp
theorem head_at {l : List Pt} {x : Pt} (h : l.head? = some x) : 0 < l.length ∧ at' l 0 = x := by
  cases l with
  | nil => cases h
  | cons y r => exact ⟨by simp, Option.some.inj h⟩
theorem last_at {l : List Pt} {x : Pt} (h : l.getLast? = some x) : 0 < l.length ∧ at' l (l.length - 1) = x := by
  have hl : 0 < l.length := by
    cases l with
    | nil => cases h
    | cons y r => simp
  refine ⟨hl, ?_⟩
  rw [List.getLast?_eq_getElem?] at h
  unfold at'
  rw [List.getD, h]
  rfl
theorem chain_good {o : List Pt} (ho : o.Pairwise Lx) (h0 : ((0, 0) : Pt) ∈ o) (h1 : ((1, 0) : Pt) ∈ o) (h2 : ((0, 1) : Pt) ∈ o) : Good (chain o) o := by
  obtain ⟨lo, hlo⟩ : ∃ x, o.head? = some x := by
    cases o with
    | nil => cases h0
    | cons x r => exact ⟨x, rfl⟩
  obtain ⟨hi, hhi⟩ : ∃ x, o.getLast? = some x := by
    cases e : o.getLast? with
    | none => rw [List.getLast?_eq_none_iff.mp e] at h0; cases h0
    | some x => exact ⟨x, rfl⟩
  -- the lower half
  have HA : Arc o (half o).reverse := arc_of (half_ok ho)
  have HU0 : Arc (o.reverse.map neg) (((half o.reverse).map neg).reverse) := arc_of (upper_ok ho)
  have eU : ((half o.reverse).map neg).reverse = (half o.reverse).reverse.map neg := by rw [List.map_reverse]
  rw [eU] at HU0
  unfold chain
  generalize hA : (half o).reverse = A at HA ⊢
  generalize hU : (half o.reverse).reverse = U at HU0 ⊢
  have mneg : ∀ p, neg p ∈ o.reverse.map neg ↔ p ∈ o := fun p => by
    constructor
    · intro h
      obtain ⟨q, hq, e⟩ := List.mem_map.mp h
      have : q = p := by rw [← neg_neg q, ← neg_neg p, e]
      rw [← this]; exact List.mem_reverse.mp hq
    · intro h; exact List.mem_map.mpr ⟨p, List.mem_reverse.mpr h, rfl⟩
  have Usub : ∀ u ∈ U, u ∈ o := fun u hu => (mneg u).mp (HU0.sub _ (List.mem_map.mpr ⟨u, hu, rfl⟩))
  obtain ⟨A0, A0e⟩ := head_at (HA.fst.trans hlo)
  obtain ⟨_, Ake⟩ := last_at (HA.lst.trans hhi)
  have Uh : U.head? = some hi := by
    have q := HU0.fst
    rw [List.head?_map, List.head?_map, List.head?_reverse, hhi] at q
    cases e : U.head? with
    | none => rw [e] at q; cases q
    | some x =>
      rw [e] at q
      have q2 : neg x = neg hi := Option.some.inj q
      rw [← neg_neg x, q2, neg_neg]
  have Ul : U.getLast? = some lo := by
    have q := HU0.lst
    rw [List.getLast?_map, List.getLast?_map, List.getLast?_reverse, hlo] at q
    cases e : U.getLast? with
    | none => rw [e] at q; cases q
    | some x =>
      rw [e] at q
      have q2 : neg x = neg lo := Option.some.inj q
      rw [← neg_neg x, q2, neg_neg]
  obtain ⟨U0, U0e⟩ := head_at Uh
  obtain ⟨_, Ule⟩ := last_at Ul
  have lohi : lo ≠ hi := by
    intro e
    -- then o has one point only
    have e1 : o.length = 1 := by
      match o, ho, hlo, hhi with
      | [x], _, _, _ => rfl
      | x :: y :: r, ho, hlo, hhi =>
        exfalso
        have hx : x = lo := Option.some.inj hlo
        have hm : hi ∈ y :: r := by
          rw [List.getLast?_cons_cons] at hhi
          exact List.mem_of_getLast? hhi
        have := (List.pairwise_cons.mp ho).1 hi hm
        rw [hx, e] at this
        exact lx_irrefl this
    match o, e1, h0, h1 with
    | [x], _, h0, h1 =>
      have a := List.mem_singleton.mp h0
      have b := List.mem_singleton.mp h1
      rw [← a] at b
      exact absurd b (by decide)
  obtain ⟨k, hk⟩ : ∃ k, A.length = k + 1 := ⟨A.length - 1, by omega⟩
  obtain ⟨l, hl⟩ : ∃ l, U.length = l + 1 := ⟨U.length - 1, by omega⟩
  have hk' : A.length - 1 = k := by omega
  have hl' : U.length - 1 = l := by omega
  rw [hk'] at Ake
  rw [hl'] at Ule
  have hk1 : 1 ≤ k := by
    cases k with
    | zero => exact absurd (A0e.symm.trans Ake) lohi
    | succ k => omega
  have hl1 : 1 ≤ l := by
    cases l with
    | zero => exact absurd (Ule.symm.trans U0e) lohi
    | succ l => omega
  have hn : (A.dropLast ++ U.dropLast).length = k + l := by simp; omega
  have dA : A.dropLast.length = k := by simp; omega
  have cA : ∀ i, i ≤ k → at' (A.dropLast ++ U.dropLast) i = at' A i := fun i hi' => by
    by_cases z : i < k
    · rw [at_app1 (by omega), at_drop (by omega)]
    · have : i = k := by omega
      subst this
      rw [at_app2 (by omega), dA, Nat.sub_self, at_drop (by omega), U0e, Ake]
  have cU : ∀ j, j < l → at' (A.dropLast ++ U.dropLast) (k + j) = at' U j := fun j hj => by
    rw [at_app2 (by omega), dA, Nat.add_sub_cancel_left, at_drop (by omega)]
  have cUn : ∀ j, j < l → at' (A.dropLast ++ U.dropLast) ((k + j + 1) % (k + l)) = at' U (j + 1) := fun j hj => by
    by_cases z : j + 1 < l
    · rw [Nat.mod_eq_of_lt (by omega)]; exact cU (j + 1) z
    · have e : k + j + 1 = k + l := by omega
      have e2 : j + 1 = l := by omega
      rw [e, Nat.mod_self, cA 0 (by omega), A0e, e2, Ule]
  have Uat : ∀ j, j ≤ l → at' (U.map neg) j = neg (at' U j) := fun j hj => at_map (by omega)
  have Udesc : ∀ i j, i < j → j ≤ l → Lx (at' U j) (at' U i) := fun i j hij hj => by
    have q := HU0.lt (i := i) (j := j) hij (by simp; omega)
    rw [Uat i (by omega), Uat j hj] at q
    exact lx_neg.mp q
  have Uturn : ∀ i j m, i < j → j < m → m ≤ l → 0 < turn (at' U i) (at' U j) (at' U m) := fun i j m hij hjm hm => by
    have q := HU0.turn3 (i := i) (j := j) (k := m) hij hjm (by simp; omega)
    rw [Uat i (by omega), Uat j (by omega), Uat m hm, turn_neg] at q
    exact q
  have Amem : ∀ i, i ≤ k → at' A i ∈ o := fun i hi' => HA.sub _ (at_mem (by omega))
  have Umem : ∀ j, j ≤ l → at' U j ∈ o := fun j hj => Usub _ (at_mem (by omega))
  refine ⟨?_, ?_, ?_, ?_, ?_, ?_⟩
  · -- three points at least
    rw [hn]
    by_cases z : k + l ≤ 2
    · exfalso
      have hkk : k = 1 := by omega
      have hll : l = 1 := by omega
      subst hkk hll
      have hLA := HA.lt (i := 0) (j := 1) (by omega) (by omega)
      have flat : ∀ p ∈ o, turn (at' A 0) (at' A 1) p = 0 := fun p hp => by
        have w1 := HA.weak (i := 0) (by omega) hp
        have w2 := HU0.weak (i := 0) (by simp; omega) ((mneg p).mpr hp)
        rw [Uat 0 (by omega), Uat 1 (by omega), turn_neg, U0e, Ule] at w2
        rw [A0e, Ake] at w1 ⊢
        have e : turn hi lo p = -(turn lo hi p) := by unfold turn; grind
        omega
      have f0 := flat _ h0
      have f1 := flat _ h1
      have f2 := flat _ h2
      unfold turn at f0 f1 f2
      unfold Lx at hLA
      simp only at f0 f1 f2
      have g1 : (at' A 1).2 - (at' A 0).2 = 0 := by grind
      have g2 : (at' A 1).1 - (at' A 0).1 = 0 := by grind
      omega
    · omega
  · rw [hn]
    have a := HA.len
    have b := HU0.len
    simp at b
    omega
  · -- strictly left
    rw [hn]
    intro i m hi' hm hne hne2
    by_cases zi : i < k
    · have ei : (i + 1) % (k + l) = i + 1 := Nat.mod_eq_of_lt (by omega)
      rw [ei] at hne2 ⊢
      rw [cA i (by omega), cA (i + 1) (by omega)]
      by_cases zm : m ≤ k
      · rw [cA m zm]
        exact HA.own (by omega) (by omega) hne hne2
      · obtain ⟨j, rfl⟩ : ∃ j, m = k + j := ⟨m - k, by omega⟩
        rw [cU j (by omega)]
        have hj : 0 < j := by omega
        exact HA.other (by omega) (Umem (j - 1) (by omega)) (Umem j (by omega)) (Umem (j + 1) (by omega)) (Udesc (j - 1) j (by omega) (by omega)) (Udesc j (j + 1) (by omega) (by omega)) (Uturn (j - 1) j (j + 1) (by omega) (by omega) (by omega))
    · obtain ⟨j, rfl⟩ : ∃ j, i = k + j := ⟨i - k, by omega⟩
      rw [cU j (by omega), cUn j (by omega)]
      have own : ∀ q, q ≤ l → q ≠ j → q ≠ j + 1 → 0 < turn (at' U j) (at' U (j + 1)) (at' U q) := fun q hq q1 q2 => by
        have z := HU0.own (i := j) (k := q) (by simp; omega) (by simp; omega) q1 q2
        rw [Uat j (by omega), Uat (j + 1) (by omega), Uat q hq, turn_neg] at z
        exact z
      by_cases zm : k ≤ m
      · obtain ⟨q, rfl⟩ : ∃ q, m = k + q := ⟨m - k, by omega⟩
        rw [cU q (by omega)]
        refine own q (by omega) (by omega) fun e => ?_
        subst e
        rw [Nat.mod_eq_of_lt (by omega)] at hne2
        omega
      · rw [cA m (by omega)]
        by_cases zm0 : m = 0
        · subst zm0
          rw [A0e, ← Ule]
          refine own l (Nat.le_refl _) (by omega) fun e => ?_
          have e3 : k + j + 1 = k + l := by omega
          rw [e3, Nat.mod_self] at hne2
          exact hne2 rfl
        · have z := HU0.other (i := j) (by simp; omega) (u := neg (at' A (m - 1))) (v := neg (at' A m)) (w := neg (at' A (m + 1)))
            ((mneg _).mpr (Amem (m - 1) (by omega))) ((mneg _).mpr (Amem m (by omega))) ((mneg _).mpr (Amem (m + 1) (by omega)))
            (lx_neg.mpr (HA.lt (by omega) (by omega))) (lx_neg.mpr (HA.lt (by omega) (by omega)))
            (by rw [turn_neg]; exact HA.turn3 (by omega) (by omega) (by omega))
          rw [Uat j (by omega), Uat (j + 1) (by omega), turn_neg] at z
          exact z
  · rw [hn]
    intro m hm0 hm
    rw [cA 0 (by omega)]
    by_cases zm : m < k
    · rw [cA m (by omega)]
      exact HA.lt hm0 (by omega)
    · obtain ⟨j, rfl⟩ : ∃ j, m = k + j := ⟨m - k, by omega⟩
      rw [cU j (by omega), A0e, ← Ule]
      exact Udesc j l (by omega) (Nat.le_refl _)
  · intro c hc
    rcases List.mem_append.mp hc with h | h
    · exact HA.sub c (List.dropLast_subset _ h)
    · exact Usub c (List.dropLast_subset _ h)
  · intro w p hp
    have inA : ∀ i, i ≤ k → at' A i ∈ A.dropLast ++ U.dropLast := fun i hi' => by
      rw [← cA i hi']; exact at_mem (by omega)
    have inU : ∀ j, j ≤ l → at' U j ∈ A.dropLast ++ U.dropLast := fun j hj => by
      by_cases z : j < l
      · rw [← cU j z]; exact at_mem (by omega)
      · have : j = l := by omega
        subst this
        rw [Ule, ← A0e]; exact inA 0 (by omega)
    by_cases hw : w.2 ≤ 0
    · obtain ⟨s, hs, q⟩ := HA.dom w p hw hp
      obtain ⟨i, hi', rfl⟩ := mem_at hs
      exact ⟨_, inA i (by omega), q⟩
    · obtain ⟨s, hs, q⟩ := HU0.dom (neg w) (neg p) (by unfold neg; simp only; omega) ((mneg p).mpr hp)
      obtain ⟨u, hu, rfl⟩ := List.mem_map.mp hs
      rw [dt_neg, dt_neg] at q
      obtain ⟨j, hj, rfl⟩ := mem_at hu
      exact ⟨_, inU j (by omega), q⟩
end Geo

/-! Ge5: widths; the least one and its directions. -/
namespace Geo
def mx : List Int → Int
  | [] => 0
  | [x] => x
  | x :: y :: r => if mx (y :: r) < x then x else mx (y :: r)
def mn : List Int → Int
  | [] => 0
  | [x] => x
  | x :: y :: r => if x < mn (y :: r) then x else mn (y :: r)
theorem mx_spec : ∀ (l : List Int), l ≠ [] → mx l ∈ l ∧ ∀ y ∈ l, y ≤ mx l
  | [], h => absurd rfl h
  | [x], _ => ⟨by simp [mx], fun y h => by simp [mx] at h ⊢; omega⟩
  | x :: y :: r, _ => by
    obtain ⟨h1, h2⟩ := mx_spec (y :: r) (by simp)
    unfold mx
    split
    · refine ⟨by simp, fun z hz => ?_⟩
      rcases List.mem_cons.mp hz with e | hz
      · omega
      · have := h2 z hz; omega
    · refine ⟨List.mem_cons_of_mem _ h1, fun z hz => ?_⟩
      rcases List.mem_cons.mp hz with e | hz
      · omega
      · exact h2 z hz
theorem mn_spec : ∀ (l : List Int), l ≠ [] → mn l ∈ l ∧ ∀ y ∈ l, mn l ≤ y
  | [], h => absurd rfl h
  | [x], _ => ⟨by simp [mn], fun y h => by simp [mn] at h ⊢; omega⟩
  | x :: y :: r, _ => by
    obtain ⟨h1, h2⟩ := mn_spec (y :: r) (by simp)
    unfold mn
    split
    · refine ⟨by simp, fun z hz => ?_⟩
      rcases List.mem_cons.mp hz with e | hz
      · omega
      · have := h2 z hz; omega
    · refine ⟨List.mem_cons_of_mem _ h1, fun z hz => ?_⟩
      rcases List.mem_cons.mp hz with e | hz
      · omega
      · exact h2 z hz
theorem mx_uniq {l : List Int} {m : Int} (h1 : m ∈ l) (h2 : ∀ y ∈ l, y ≤ m) : m = mx l := by
  have hne : l ≠ [] := fun e => by rw [e] at h1; cases h1
  obtain ⟨a, b⟩ := mx_spec l hne
  have := h2 _ a
  have := b _ h1
  omega
theorem mn_uniq {l : List Int} {m : Int} (h1 : m ∈ l) (h2 : ∀ y ∈ l, m ≤ y) : m = mn l := by
  have hne : l ≠ [] := fun e => by rw [e] at h1; cases h1
  obtain ⟨a, b⟩ := mn_spec l hne
  have := h2 _ a
  have := b _ h1
  omega
/-- the width in a direction -/
def W (cs : List Pt) (d : Pt) : Int := mx (cs.map (dt d)) - mn (cs.map (dt d))
section
variable {cs : List Pt}
theorem W_ge {d c c' : Pt} (h : c ∈ cs) (h' : c' ∈ cs) : dt d c - dt d c' ≤ W cs d := by
  have hne : cs.map (dt d) ≠ [] := fun e => by
    have q : dt d c ∈ cs.map (dt d) := List.mem_map.mpr ⟨c, h, rfl⟩
    rw [e] at q; cases q
  have a := (mx_spec _ hne).2 _ (List.mem_map.mpr ⟨c, h, rfl⟩)
  have b := (mn_spec _ hne).2 _ (List.mem_map.mpr ⟨c', h', rfl⟩)
  unfold W
  omega
theorem W_at (hne : cs ≠ []) (d : Pt) : ∃ c ∈ cs, ∃ c' ∈ cs, W cs d = dt d c - dt d c' := by
  have hne : cs.map (dt d) ≠ [] := by simpa using hne
  obtain ⟨c, hc, e⟩ := List.mem_map.mp (mx_spec _ hne).1
  obtain ⟨c', hc', e'⟩ := List.mem_map.mp (mn_spec _ hne).1
  exact ⟨c, hc, c', hc', by unfold W; rw [e, e']⟩
theorem W_abs {d c c' : Pt} (h : c ∈ cs) (h' : c' ∈ cs) : (dt d (sb c c')).natAbs ≤ (W cs d).toNat := by
  have a := W_ge (d := d) h h'
  have b := W_ge (d := d) h' h
  have e : dt d (sb c c') = dt d c - dt d c' := by unfold dt sb; grind
  omega
theorem W_nonneg (hne : cs ≠ []) (d : Pt) : 0 ≤ W cs d := by
  obtain ⟨c, hc, _⟩ := W_at hne d
  have := W_ge (d := d) hc hc
  omega
theorem W_neg (hne : cs ≠ []) (d : Pt) : W cs (neg d) = W cs d := by
  obtain ⟨c, hc, c', hc', e⟩ := W_at hne d
  obtain ⟨b, hb, b', hb', e'⟩ := W_at hne (neg d)
  have n : ∀ p, dt (neg d) p = -(dt d p) := fun p => by unfold dt neg; grind
  have h1 := W_ge (d := neg d) hc' hc
  have h2 := W_ge (d := d) hb' hb
  rw [n, n] at h1 e'
  omega
/-- a multiple -/
theorem W_mul (hne : cs ≠ []) {g : Int} (hg : 0 ≤ g) (d : Pt) : W cs (g * d.1, g * d.2) = g * W cs d := by
  obtain ⟨c, hc, c', hc', e⟩ := W_at hne d
  obtain ⟨b, hb, b', hb', e'⟩ := W_at hne (g * d.1, g * d.2)
  have n : ∀ p, dt (g * d.1, g * d.2) p = g * dt d p := fun p => by unfold dt; grind
  have h1 := W_ge (d := (g * d.1, g * d.2)) hc hc'
  have h2 := W_ge (d := d) hb hb'
  rw [n, n] at h1 e'
  have h3 : g * (dt d b - dt d b') ≤ g * W cs d := Int.mul_le_mul_of_nonneg_left h2 hg
  have e1 : g * (dt d b - dt d b') = g * dt d b - g * dt d b' := by grind
  have e2 : g * W cs d = g * dt d c - g * dt d c' := by rw [e]; grind
  omega
end
/-- the corners reach as far as the unit triangle -/
def Unit (cs : List Pt) : Prop := ∀ w, (∃ c ∈ cs, 0 ≤ dt w c) ∧ (∃ c ∈ cs, w.1 ≤ dt w c) ∧ ∃ c ∈ cs, w.2 ≤ dt w c
theorem Good.unit {cs o : List Pt} (G : Good cs o) (h0 : ((0, 0) : Pt) ∈ o) (h1 : ((1, 0) : Pt) ∈ o) (h2 : ((0, 1) : Pt) ∈ o) : Unit cs := fun w => by
  obtain ⟨a, ha, qa⟩ := G.sup w _ h0
  obtain ⟨b, hb, qb⟩ := G.sup w _ h1
  obtain ⟨c, hc, qc⟩ := G.sup w _ h2
  have e0 : dt w (0, 0) = 0 := by unfold dt; simp
  have e1 : dt w (1, 0) = w.1 := by unfold dt; simp
  have e2 : dt w (0, 1) = w.2 := by unfold dt; simp
  exact ⟨⟨a, ha, by omega⟩, ⟨b, hb, by omega⟩, c, hc, by omega⟩
theorem Unit.ge {cs : List Pt} (U : Unit cs) (d : Pt) : d.1 ≤ W cs d ∧ -d.1 ≤ W cs d ∧ d.2 ≤ W cs d ∧ -d.2 ≤ W cs d := by
  have n : ∀ p, dt (neg d) p = -(dt d p) := fun p => by unfold dt neg; grind
  obtain ⟨⟨a, ha, qa⟩, ⟨b, hb, qb⟩, c, hc, qc⟩ := U d
  obtain ⟨⟨a', ha', qa'⟩, ⟨b', hb', qb'⟩, c', hc', qc'⟩ := U (neg d)
  rw [n] at qa' qb' qc'
  unfold neg at qb' qc'
  simp only at qb' qc'
  have h1 := W_ge (d := d) hb ha'
  have h2 := W_ge (d := d) ha hb'
  have h3 := W_ge (d := d) hc ha'
  have h4 := W_ge (d := d) ha hc'
  omega
theorem Unit.ne {cs : List Pt} (U : Unit cs) : cs ≠ [] := fun e => by
  obtain ⟨⟨a, ha, _⟩, _⟩ := U (0, 0)
  rw [e] at ha; cases ha

/-! ### the least width and its normalized directions -/
def Nz (d : Pt) : Prop := Int.gcd d.1 d.2 = 1 ∧ Lx (0, 0) d
structure LW (cs : List Pt) (M : Int) (ds : List Pt) : Prop where
  ex : ∃ d, Nz d ∧ W cs d = M
  low : ∀ d, Nz d → M ≤ W cs d
  asc : ds.Pairwise Lx
  mem : ∀ d, d ∈ ds ↔ (Nz d ∧ W cs d = M)
theorem sorted_eq : ∀ {l r : List Pt}, l.Pairwise Lx → r.Pairwise Lx → (∀ d, d ∈ l ↔ d ∈ r) → l = r
  | [], [], _, _, _ => rfl
  | [], y :: r, _, _, h => by have := (h y).mpr (by simp); cases this
  | x :: l, [], _, _, h => by have := (h x).mp (by simp); cases this
  | x :: l, y :: r, hl, hr, h => by
    have hl' := List.pairwise_cons.mp hl
    have hr' := List.pairwise_cons.mp hr
    have exy : x = y := by
      rcases List.mem_cons.mp ((h x).mp (by simp)) with e | e
      · exact e
      · rcases List.mem_cons.mp ((h y).mpr (by simp)) with e2 | e2
        · exact e2.symm
        · exact absurd (lx_trans (hl'.1 y e2) (hr'.1 x e)) lx_irrefl
    subst exy
    rw [sorted_eq hl'.2 hr'.2 fun d => ?_]
    constructor
    · intro hd
      rcases List.mem_cons.mp ((h d).mp (List.mem_cons_of_mem _ hd)) with e | e
      · exact absurd (hl'.1 d hd) (by rw [e]; exact lx_irrefl)
      · exact e
    · intro hd
      rcases List.mem_cons.mp ((h d).mpr (List.mem_cons_of_mem _ hd)) with e | e
      · exact absurd (hr'.1 d hd) (by rw [e]; exact lx_irrefl)
      · exact e
theorem LW.uniq {cs : List Pt} {M M' : Int} {ds ds' : List Pt} (h : LW cs M ds) (h' : LW cs M' ds') : M = M' ∧ ds = ds' := by
  obtain ⟨d, hd, e⟩ := h.ex
  obtain ⟨d', hd', e'⟩ := h'.ex
  have a := h.low d' hd'
  have b := h'.low d hd
  have hM : M = M' := by omega
  subst hM
  exact ⟨rfl, sorted_eq h.asc h'.asc fun x => (h.mem x).trans (h'.mem x).symm⟩
/-- every direction has a normalized one that is no wider -/
theorem norm_of {cs : List Pt} (hne : cs ≠ []) {d : Pt} (hd : d ≠ (0, 0)) : ∃ e, Nz e ∧ W cs e ≤ W cs d := by
  have hg : 0 < Int.gcd d.1 d.2 := by
    rcases Nat.eq_zero_or_pos (Int.gcd d.1 d.2) with z | z
    · exfalso
      have := Int.gcd_eq_zero_iff.mp z
      exact hd (Prod.ext this.1 this.2)
    · exact z
  obtain ⟨x, hx⟩ := Int.gcd_dvd_left (a := d.1) (b := d.2)
  obtain ⟨y, hy⟩ := Int.gcd_dvd_right (a := d.1) (b := d.2)
  have hxy : Int.gcd x y = 1 := by
    have q := Int.gcd_mul_left (Int.gcd d.1 d.2 : Int) x y
    rw [← hx, ← hy] at q
    have q2 : Int.gcd d.1 d.2 * 1 = Int.gcd d.1 d.2 * Int.gcd x y := by simpa using q
    exact (Nat.eq_of_mul_eq_mul_left hg q2).symm
  have hW : W cs d = (Int.gcd d.1 d.2 : Int) * W cs (x, y) := by
    have q := W_mul hne (g := (Int.gcd d.1 d.2 : Int)) (by omega) (x, y)
    simp only at q
    rw [← hx, ← hy] at q
    exact q
  have h0 := W_nonneg hne (x, y)
  have hle : W cs (x, y) ≤ W cs d := by
    rw [hW]
    have q : 1 * W cs (x, y) ≤ (Int.gcd d.1 d.2 : Int) * W cs (x, y) := Int.mul_le_mul_of_nonneg_right (by omega) h0
    omega
  by_cases z : Lx (0, 0) (x, y)
  · exact ⟨(x, y), ⟨hxy, z⟩, hle⟩
  · refine ⟨neg (x, y), ⟨?_, ?_⟩, by rw [W_neg hne]; exact hle⟩
    · unfold neg
      simp only [Int.gcd_neg, Int.neg_gcd]
      exact hxy
    · unfold Lx at z
      unfold neg Lx
      simp only at z ⊢
      by_cases hx0 : x = 0
      · subst hx0
        by_cases hy0 : y = 0
        · subst hy0
          simp at hxy
        · omega
      · omega
/-- a finite list of directions that holds all narrow ones tells the least width -/
theorem lw_of {cs near ds : List Pt} {M B : Int} (U : Unit cs) (hz : ∀ d ∈ near, d ≠ (0, 0)) (hB : ∃ d ∈ near, W cs d ≤ B) (hall : ∀ d, Nz d → W cs d ≤ B → d ∈ near)
    (hM : ∃ d ∈ near, W cs d = M) (hlow : ∀ d ∈ near, M ≤ W cs d) (hasc : ds.Pairwise Lx) (hmem : ∀ d, d ∈ ds ↔ d ∈ near ∧ W cs d = M ∧ Nz d) : LW cs M ds := by
  obtain ⟨dB, hdB, qB⟩ := hB
  have hMB : M ≤ B := by have := hlow dB hdB; omega
  have low : ∀ d, Nz d → M ≤ W cs d := fun d hd => by
    cases Int.lt_or_le (W cs d) M with
    | inr z => exact z
    | inl z => exact hlow d (hall d hd (by omega))
  obtain ⟨d0, hd0, q0⟩ := hM
  obtain ⟨e, he, qe⟩ := norm_of U.ne (hz d0 hd0)
  refine ⟨⟨e, he, ?_⟩, fun d hd => low d hd, hasc, fun d => ?_⟩
  · have := low e he
    omega
  · rw [hmem]
    constructor
    · rintro ⟨_, a, b⟩
      exact ⟨b, a⟩
    · rintro ⟨a, b⟩
      exact ⟨hall d a (by omega), b, a⟩
end Geo

/-! Ge6: short directions, and the box that holds all narrow ones. -/
namespace Geo
/-- the form by which directions are measured -/
def qf (a b x y : Pt) : Int := dt x a * dt y a + dt x b * dt y b
theorem qf_comm (a b x y : Pt) : qf a b x y = qf a b y x := by unfold qf; grind
theorem qf_det (a b u v : Pt) : qf a b u u * qf a b v v - qf a b u v * qf a b u v = (cr u v * cr a b) * (cr u v * cr a b) := by unfold qf dt cr; grind
theorem sq_nonneg (x : Int) : 0 ≤ x * x := by
  rcases Int.le_total 0 x with h | h
  · exact Int.mul_nonneg h h
  · exact Int.mul_nonneg_of_nonpos_of_nonpos h h
theorem sq_pos {x : Int} (h : x ≠ 0) : 1 ≤ x * x := by
  have a := sq_nonneg x
  have b : x * x ≠ 0 := fun e => by rcases Int.mul_eq_zero.mp e with z | z <;> exact h z
  omega
theorem qf_nonneg (a b x : Pt) : 0 ≤ qf a b x x := by
  unfold qf
  have := sq_nonneg (dt x a)
  have := sq_nonneg (dt x b)
  omega
/-- the state of the reduction -/
structure Red (a b : Pt) (Q : Int) (u v : Pt) : Prop where
  det : cr u v = 1 ∨ cr u v = -1
  sum : qf a b u u + qf a b v v ≤ Q
section
variable {a b u v : Pt} {Q : Int}
theorem unit_sq (h : cr u v = 1 ∨ cr u v = -1) : (cr u v * cr a b) * (cr u v * cr a b) = cr a b * cr a b := by
  rcases h with h | h <;> rw [h] <;> grind
theorem Red.pos (h : Red a b Q u v) (hD : cr a b ≠ 0) : 0 < qf a b u u ∧ 0 < qf a b v v := by
  have q := qf_det a b u v
  rw [unit_sq h.det] at q
  have d := sq_pos hD
  have b2 := sq_nonneg (qf a b u v)
  have n1 := qf_nonneg a b u
  have n2 := qf_nonneg a b v
  constructor
  · rcases Int.lt_or_eq_of_le n1 with z | z
    · exact z
    · rw [← z] at q; omega
  · rcases Int.lt_or_eq_of_le n2 with z | z
    · exact z
    · rw [← z] at q; omega
theorem Red.swap (h : Red a b Q u v) : Red a b Q v u := by
  refine ⟨?_, by have := h.sum; omega⟩
  have e : cr v u = -(cr u v) := by unfold cr; grind
  rcases h.det with z | z <;> rw [e, z] <;> simp
def step (u v : Pt) (f : Int) : Pt := (v.1 - f * u.1, v.2 - f * u.2)
theorem cr_step (f : Int) : cr u (step u v f) = cr u v := by unfold cr step; grind
theorem qf_step (f : Int) : qf a b (step u v f) (step u v f) = qf a b v v - f * (2 * qf a b u v - f * qf a b u u) := by unfold qf dt step; grind
theorem qf_step2 (f : Int) : qf a b u (step u v f) = qf a b u v - f * qf a b u u := by unfold qf dt step; grind
def fac (a b u v : Pt) : Int := (2 * qf a b u v + qf a b u u).fdiv (2 * qf a b u u)
theorem fac_spec (hS : 0 < qf a b u u) : 2 * qf a b u u * fac a b u v ≤ 2 * qf a b u v + qf a b u u ∧ 2 * qf a b u v + qf a b u u < 2 * qf a b u u * fac a b u v + 2 * qf a b u u := by
  unfold fac
  rw [Int.fdiv_eq_ediv_of_nonneg _ (by omega)]
  have h1 := Int.mul_ediv_add_emod (2 * qf a b u v + qf a b u u) (2 * qf a b u u)
  have h2 := Int.emod_nonneg (2 * qf a b u v + qf a b u u) (b := 2 * qf a b u u) (by omega)
  have h3 := Int.emod_lt_of_pos (2 * qf a b u v + qf a b u u) (b := 2 * qf a b u u) (by omega)
  omega
def mu (a b u v : Pt) : Nat := (2 * (qf a b u u + qf a b v v) + (if 0 < qf a b u v then 1 else 0)).toNat
/-- a step of the reduction -/
theorem Red.next (h : Red a b Q u v) (hD : cr a b ≠ 0) (hf : fac a b u v ≠ 0) : Red a b Q u (step u v (fac a b u v)) ∧ mu a b u (step u v (fac a b u v)) < mu a b u v := by
  have hS := (h.pos hD).1
  obtain ⟨f1, f2⟩ := fac_spec (a := a) (b := b) (u := u) (v := v) hS
  have eT := qf_step (a := a) (b := b) (u := u) (v := v) (fac a b u v)
  have eB := qf_step2 (a := a) (b := b) (u := u) (v := v) (fac a b u v)
  have hn1 := qf_nonneg a b v
  have hn2 := qf_nonneg a b (step u v (fac a b u v))
  have hsum := h.sum
  have hdet : cr u (step u v (fac a b u v)) = 1 ∨ cr u (step u v (fac a b u v)) = -1 := by rw [cr_step]; exact h.det
  generalize fac a b u v = f at *
  generalize hTT : qf a b (step u v f) (step u v f) = T' at *
  generalize hBB : qf a b u (step u v f) = B' at *
  unfold mu
  rw [hTT, hBB]
  generalize hS0 : qf a b u u = S at *
  generalize qf a b v v = T at *
  generalize qf a b u v = B at *
  have key : T' ≤ T - 1 ∨ (T' = T ∧ 0 < B ∧ B' < 0) := by
    rcases Int.lt_trichotomy f 0 with z | z | z
    · left
      -- f ≤ -1
      have g1 : 2 * B - f * S < 0 := by
        have e1 : 2 * S * f = f * S + f * S := by grind
        have e2 : f * S ≤ -1 * S := Int.mul_le_mul_of_nonneg_right (by omega) (by omega)
        omega
      have g2 : 0 < f * (2 * B - f * S) := Int.mul_pos_of_neg_of_neg z g1
      omega
    · exact absurd z hf
    · by_cases z2 : f = 1
      · subst z2
        have e3 : 1 * (2 * B - 1 * S) = 2 * B - S := by grind
        have e4 : 2 * S * 1 = 2 * S := by grind
        have e5 : 1 * S = S := by grind
        by_cases z3 : 2 * B = S
        · right
          omega
        · left
          omega
      · left
        have g1 : 0 < 2 * B - f * S := by
          have e1 : 2 * S * f = f * S + f * S := by grind
          have e2 : 2 * S ≤ f * S := Int.mul_le_mul_of_nonneg_right (by omega) (by omega)
          omega
        have g2 : 0 < f * (2 * B - f * S) := Int.mul_pos z g1
        omega
  constructor
  · refine ⟨hdet, ?_⟩
    rw [hTT, hS0]
    omega
  · rcases key with k | ⟨k1, k2, k3⟩
    · split <;> split <;> omega
    · rw [if_neg (by omega), if_pos k2]
      omega
theorem mu_swap : mu a b v u = mu a b u v := by unfold mu; rw [qf_comm a b v u, Int.add_comm (qf a b v v)]
/-- sizes -/
theorem le_sq (x : Int) : x ≤ x * x ∧ -x ≤ x * x := by
  have h := sq_nonneg x
  rcases Int.lt_trichotomy x 0 with z | z | z
  · have : 1 * (-x) ≤ (-x) * (-x) := Int.mul_le_mul_of_nonneg_right (by omega) (by omega)
    have e : (-x) * (-x) = x * x := by grind
    omega
  · subst z; omega
  · have : 1 * x ≤ x * x := Int.mul_le_mul_of_nonneg_right (by omega) (by omega)
    omega
theorem dt_le (x : Pt) : dt x a ≤ qf a b x x ∧ -(dt x a) ≤ qf a b x x ∧ dt x b ≤ qf a b x x ∧ -(dt x b) ≤ qf a b x x := by
  have h1 := le_sq (dt x a)
  have h2 := le_sq (dt x b)
  have h3 := sq_nonneg (dt x a)
  have h4 := sq_nonneg (dt x b)
  unfold qf
  omega

/-! ### the box -/
/-- three corners' cross products are bounded -/
def Tri (cs : List Pt) (D : Int) : Prop := ∀ x ∈ cs, ∀ y ∈ cs, ∀ z ∈ cs, turn x y z ≤ D ∧ -(turn x y z) ≤ D
theorem ab_le {x D : Int} : x ≤ D ∧ -x ≤ D ↔ (x.natAbs : Int) ≤ D := by omega
/-- a direction in the basis -/
theorem in_basis (hdet : cr u v = 1 ∨ cr u v = -1) (d : Pt) : ∃ i j : Int, d = (i * u.1 + j * v.1, i * u.2 + j * v.2) ∧ i.natAbs = (cr d v).natAbs ∧ j.natAbs = (cr u d).natAbs := by
  rcases hdet with h | h
  · refine ⟨cr d v, cr u d, ?_, rfl, rfl⟩
    unfold cr at *
    refine Prod.ext ?_ ?_ <;> simp only <;> grind
  · refine ⟨-(cr d v), -(cr u d), ?_, by simp, by simp⟩
    unfold cr at *
    refine Prod.ext ?_ ?_ <;> simp only <;> grind
theorem cross_le {B : Nat} {d x : Pt} (ha : (dt d a).natAbs ≤ B) (hb : (dt d b).natAbs ≤ B) : (cr d x).natAbs * (cr a b).natAbs ≤ B * ((dt x a).natAbs + (dt x b).natAbs) := by
  rw [← Int.natAbs_mul]
  have e : cr d x * cr a b = dt d a * dt x b - dt d b * dt x a := by unfold cr dt; grind
  rw [e]
  have h1 : (dt d a * dt x b).natAbs ≤ B * (dt x b).natAbs := by rw [Int.natAbs_mul]; exact Nat.mul_le_mul_right _ ha
  have h2 : (dt d b * dt x a).natAbs ≤ B * (dt x a).natAbs := by rw [Int.natAbs_mul]; exact Nat.mul_le_mul_right _ hb
  have h3 : B * ((dt x a).natAbs + (dt x b).natAbs) = B * (dt x a).natAbs + B * (dt x b).natAbs := Nat.mul_add _ _ _
  omega
/-- a narrow direction lies in the box -/
theorem in_box {cs : List Pt} {c1 c2 c3 c4 : Pt} {bd : Nat} (h1 : c1 ∈ cs) (h2 : c2 ∈ cs) (h3 : c3 ∈ cs) (h4 : c4 ∈ cs) (ea : a = sb c1 c2) (eb : b = sb c3 c4) (hD : cr a b ≠ 0) (hdet : cr u v = 1 ∨ cr u v = -1)
    (d : Pt) (hW : W cs d ≤ bd) : ∃ i j : Int, d = (i * u.1 + j * v.1, i * u.2 + j * v.2) ∧ i.natAbs ≤ bd * ((dt v a).natAbs + (dt v b).natAbs) / (cr a b).natAbs ∧ j.natAbs ≤ bd * ((dt u a).natAbs + (dt u b).natAbs) / (cr a b).natAbs := by
  obtain ⟨i, j, ed, ei, ej⟩ := in_basis hdet d
  have ha : (dt d a).natAbs ≤ bd := by
    rw [ea]
    have := W_abs (d := d) h1 h2
    omega
  have hb : (dt d b).natAbs ≤ bd := by
    rw [eb]
    have := W_abs (d := d) h3 h4
    omega
  have hD' : 0 < (cr a b).natAbs := by omega
  refine ⟨i, j, ed, ?_, ?_⟩
  · rw [Nat.le_div_iff_mul_le hD', ei]
    exact cross_le ha hb
  · rw [Nat.le_div_iff_mul_le hD', ej]
    have q := cross_le (x := u) ha hb
    have e : (cr u d).natAbs = (cr d u).natAbs := by
      have : cr u d = -(cr d u) := by unfold cr; grind
      rw [this]; simp
    rw [e]
    exact q
/-- the width along a direction, by a and b -/
theorem W_two {cs : List Pt} (hne : cs ≠ []) {p q r : Pt} (hp : p ∈ cs) (hq : q ∈ cs) (hr : r ∈ cs) (ea : a = sb q p) (eb : b = sb r p) (hD : cr a b ≠ 0) (hT : Tri cs (cr a b).natAbs) (x : Pt) :
    W cs x ≤ 2 * ((dt x a).natAbs + (dt x b).natAbs) := by
  obtain ⟨c, hc, c', hc', e⟩ := W_at hne x
  have hD' : 0 < (cr a b).natAbs := by omega
  have e1 : cr a b * (dt x c - dt x c') = cr (sb c c') b * dt x a + cr a (sb c c') * dt x b := by unfold cr dt sb; grind
  have t1 : cr (sb c c') b = turn p c r - turn p c' r := by rw [eb]; unfold cr turn sb; grind
  have t2 : cr a (sb c c') = turn p q c - turn p q c' := by rw [ea]; unfold cr turn sb; grind
  have b1 : (cr (sb c c') b).natAbs ≤ 2 * (cr a b).natAbs := by
    have q1 := hT p hp c hc r hr
    have q2 := hT p hp c' hc' r hr
    omega
  have b2 : (cr a (sb c c')).natAbs ≤ 2 * (cr a b).natAbs := by
    have q1 := hT p hp q hq c hc
    have q2 := hT p hp q hq c' hc'
    omega
  have e2 : (cr a b).natAbs * (dt x c - dt x c').natAbs ≤ 2 * (cr a b).natAbs * (dt x a).natAbs + 2 * (cr a b).natAbs * (dt x b).natAbs := by
    rw [← Int.natAbs_mul, e1]
    have q1 : (cr (sb c c') b * dt x a).natAbs ≤ 2 * (cr a b).natAbs * (dt x a).natAbs := by rw [Int.natAbs_mul]; exact Nat.mul_le_mul_right _ b1
    have q2 : (cr a (sb c c') * dt x b).natAbs ≤ 2 * (cr a b).natAbs * (dt x b).natAbs := by rw [Int.natAbs_mul]; exact Nat.mul_le_mul_right _ b2
    omega
  have e3 : (cr a b).natAbs * (dt x c - dt x c').natAbs ≤ (cr a b).natAbs * (2 * ((dt x a).natAbs + (dt x b).natAbs)) := by
    have : 2 * (cr a b).natAbs * (dt x a).natAbs + 2 * (cr a b).natAbs * (dt x b).natAbs = (cr a b).natAbs * (2 * ((dt x a).natAbs + (dt x b).natAbs)) := by grind
    omega
  have e4 := Nat.le_of_mul_le_mul_left e3 hD'
  omega
theorem add_sq (x y : Int) : (x + y) * (x + y) ≤ 2 * (x * x + y * y) := by
  have h := sq_nonneg (x - y)
  have e : (x + y) * (x + y) = 2 * (x * x + y * y) - (x - y) * (x - y) := by grind
  omega
theorem natAbs_sq (x : Int) : (x.natAbs : Int) * (x.natAbs : Int) = x * x := by
  rcases Int.natAbs_eq x with h | h
  · rw [← h]
  · have e : (x.natAbs : Int) = -x := by omega
    rw [e]; grind
/-- with short directions the box is small -/
theorem box_small {bd : Nat} (hD : cr a b ≠ 0) (hdet : cr u v = 1 ∨ cr u v = -1) (hST : qf a b u u ≤ qf a b v v) (hB1 : -(qf a b u u) ≤ 2 * qf a b u v) (hB2 : 2 * qf a b u v ≤ qf a b u u)
    (hbd : bd ≤ 2 * ((dt u a).natAbs + (dt u b).natAbs)) : bd * ((dt v a).natAbs + (dt v b).natAbs) / (cr a b).natAbs ≤ 8 ∧ bd * ((dt u a).natAbs + (dt u b).natAbs) / (cr a b).natAbs ≤ 8 := by
  have hdt := qf_det a b u v
  rw [unit_sq hdet] at hdt
  have hD' : 0 < (cr a b).natAbs := by omega
  have eD : ((cr a b).natAbs : Int) * ((cr a b).natAbs : Int) = cr a b * cr a b := natAbs_sq _
  have eu1 := natAbs_sq (dt u a)
  have eu2 := natAbs_sq (dt u b)
  have ev1 := natAbs_sq (dt v a)
  have ev2 := natAbs_sq (dt v b)
  have au := add_sq (dt u a).natAbs (dt u b).natAbs
  have av := add_sq (dt v a).natAbs (dt v b).natAbs
  have eS : qf a b u u = dt u a * dt u a + dt u b * dt u b := rfl
  have eT : qf a b v v = dt v a * dt v a + dt v b * dt v b := rfl
  have hS0 := qf_nonneg a b u
  generalize (cr a b).natAbs = D at *
  generalize hx : (dt u a).natAbs + (dt u b).natAbs = x at *
  generalize hy : (dt v a).natAbs + (dt v b).natAbs = y at *
  have hx' : ((dt u a).natAbs : Int) + ((dt u b).natAbs : Int) = (x : Int) := by omega
  have hy' : ((dt v a).natAbs : Int) + ((dt v b).natAbs : Int) = (y : Int) := by omega
  rw [hx'] at au
  rw [hy'] at av
  have au' : (x : Int) * x ≤ 2 * qf a b u u := by omega
  have av' : (y : Int) * y ≤ 2 * qf a b v v := by omega
  generalize qf a b u u = S at *
  generalize qf a b v v = T at *
  generalize qf a b u v = B at *
  -- 3 S T ≤ 4 D²
  have hBB : 4 * (B * B) ≤ S * S := by
    have q : 0 ≤ (S - 2 * B) * (S + 2 * B) := Int.mul_nonneg (by omega) (by omega)
    have e : (S - 2 * B) * (S + 2 * B) = S * S - 4 * (B * B) := by grind
    omega
  have hSS : S * S ≤ S * T := Int.mul_le_mul_of_nonneg_left hST hS0
  have h3 : 3 * (S * T) ≤ 4 * ((D : Int) * D) := by omega
  have hT0 : 0 ≤ T := by omega
  -- x y ≤ 3 D... by squares
  have hxx := sq_nonneg (x : Int)
  have hyy := sq_nonneg (y : Int)
  have hxy2 : ((x : Int) * x) * ((y : Int) * y) ≤ (2 * S) * (2 * T) := Int.mul_le_mul au' av' hyy (by omega)
  have hxy3 : ((x : Int) * x) * ((y : Int) * y) ≤ 9 * ((D : Int) * D) := by
    have e : (2 * S) * (2 * T) = 4 * (S * T) := by grind
    have := sq_nonneg (D : Int)
    omega
  have hxy : x * y ≤ 3 * D := by
    rcases Nat.lt_or_ge (3 * D) (x * y) with z | z
    rotate_left
    · exact z
    · exfalso
      have z' : (3 * D) * (3 * D) < (x * y) * (x * y) := Nat.mul_lt_mul'' z z
      have z2 : ((3 * D : Nat) : Int) * ((3 * D : Nat) : Int) < ((x * y : Nat) : Int) * ((x * y : Nat) : Int) := by exact_mod_cast z'
      have e1 : ((3 * D : Nat) : Int) * ((3 * D : Nat) : Int) = 9 * ((D : Int) * D) := by push_cast; grind
      have e2 : ((x * y : Nat) : Int) * ((x * y : Nat) : Int) = ((x : Int) * x) * ((y : Int) * y) := by push_cast; grind
      omega
  have hS2 : S ≤ 2 * D := by
    rcases Int.lt_or_le (2 * (D : Int)) S with z | z
    · exfalso
      have z1 : (2 * (D : Int)) * (2 * (D : Int)) ≤ (2 * (D : Int)) * S := Int.mul_le_mul_of_nonneg_left (Int.le_of_lt z) (by omega)
      have z2 : (2 * (D : Int)) * S < S * S := Int.mul_lt_mul_of_pos_right z (by omega)
      have z' : (2 * (D : Int)) * (2 * (D : Int)) < S * S := by omega
      have e1 : (2 * (D : Int)) * (2 * (D : Int)) = 4 * ((D : Int) * D) := by grind
      have := sq_nonneg (D : Int)
      omega
    · exact z
  have hxx2 : x * x ≤ 4 * D := by
    have : ((x * x : Nat) : Int) ≤ ((4 * D : Nat) : Int) := by push_cast; omega
    exact_mod_cast this
  constructor
  · have q : bd * y ≤ 2 * x * y := Nat.mul_le_mul_right _ hbd
    have e : 2 * x * y = 2 * (x * y) := by grind
    refine Nat.div_le_of_le_mul ?_
    omega
  · have q : bd * x ≤ 2 * x * x := Nat.mul_le_mul_right _ hbd
    have e : 2 * x * x = 2 * (x * x) := by grind
    refine Nat.div_le_of_le_mul ?_
    omega
end
end Geo

/-! Gx1: a run in which some sleeping generators are not woken is the same run whatever these would do. -/
namespace Gx
open PySem
open Sem (wp)

/-- a sleeper that can't be woken -/
def stuckK : Resume → Sem PySem.Fin := fun _ => .unsupported ""
def dead : GenState → GenState
  | .suspended _ l c p fs cl => .suspended stuckK l c p fs cl
  | x => x
def Susp : GenState → Prop
  | .suspended .. => True
  | _ => False
def CleanS : GenState → Prop
  | .suspended _ _ _ _ fs _ => splitAtGen fs = none
  | _ => True
def CleanE : End → Prop
  | .susp _ _ _ _ _ _ fs => splitAtGen fs = none
  | _ => True
def lift (B : Nat → Option GenState) (s : Shared) : Shared := { s with gens := s.gens.mapIdx fun i x => (B i).getD x }
structure Good (B : Nat → Option GenState) (s : Shared) : Prop where
  on : ∀ i r, B i = some r → s.gens[i]? = some (dead r) ∧ Susp r
  off : ∀ i x, B i = none → s.gens[i]? = some x → CleanS x

theorem runs_stuck {M : Model} {Γ : Ctx} {p : Pos} {t : Sem PySem.Fin} {w : String} {fs : List Frame} {s s' : Shared} {e : End} (h : Runs M Γ p t fs s e s') : t = .unsupported w → False := by
  induction h <;> intro ht <;> first | (cases ht; done) | (rename_i ih _; exact ih ht) | (rename_i ih; exact ih ht) | (rename_i ih _ _; exact ih ht) | (rename_i ih _ _ _; exact ih ht)

theorem split_tail {F : Frame} {fs : List Frame} (h : splitAtGen (F :: fs) = none) : splitAtGen fs = none := by
  cases F with
  | ret => 
    have h' : (splitAtGen fs).map _ = none := h
    exact Option.map_eq_none_iff.mp h'
  | gen => cases h
theorem split_app : ∀ {fs gs : List Frame}, splitAtGen fs = none → splitAtGen gs = none → splitAtGen (fs ++ gs) = none
  | [], _, _, h => h
  | F :: fs, gs, h1, h2 => by
    cases F with
    | ret =>
      have h' := split_app (fs := fs) (split_tail h1) h2
      show (splitAtGen (fs ++ gs)).map _ = none
      rw [h']; rfl
    | gen => cases h1
theorem split_ret {k h g l c p kp} : splitAtGen [Frame.ret k h g l c p kp] = none := rfl

section
variable {B : Nat → Option GenState} {s : Shared}
theorem lift_size : (lift B s).gens.size = s.gens.size := by simp [lift]
theorem lift_get (i : Nat) : (lift B s).gens[i]? = (s.gens[i]?).map fun x => (B i).getD x := by simp [lift]
theorem lift_on (G : Good B s) {i : Nat} {r : GenState} (h : B i = some r) : (lift B s).gens[i]? = some r := by
  rw [lift_get, (G.on i r h).1, h]; rfl
theorem lift_off {i : Nat} {x : GenState} (h : B i = none) (e : s.gens[i]? = some x) : (lift B s).gens[i]? = some x := by
  rw [lift_get, e, h]; rfl
theorem seen_dead {r : GenState} : (dead r).seen = r.seen := by cases r <;> rfl
theorem lift_set {g : Nat} {x : GenState} (h : B g = none) : lift B (s.setGen g x) = (lift B s).setGen g x := by
  unfold lift Shared.setGen
  congr 1
  apply Array.ext_getElem?
  intro i
  simp only [Array.getElem?_mapIdx, Array.getElem?_setIfInBounds, Array.size_mapIdx]
  by_cases e : g = i
  · subst e; by_cases z : g < s.gens.size <;> simp [h, z]
  · simp [e]
theorem Good.set (G : Good B s) {g : Nat} {x : GenState} (h : B g = none) (hx : CleanS x) : Good B (s.setGen g x) := by
  refine ⟨fun i r e => ⟨?_, (G.on i r e).2⟩, fun i y e hy => ?_⟩
  · have ne : g ≠ i := fun z => by rw [z, e] at h; cases h
    show (s.gens.setIfInBounds g x)[i]? = _
    rw [Array.getElem?_setIfInBounds_ne ne]
    exact (G.on i r e).1
  · have hy' : (s.gens.setIfInBounds g x)[i]? = some y := hy
    by_cases z : g = i
    · subst z
      rw [Array.getElem?_setIfInBounds] at hy'
      rw [if_pos rfl] at hy'
      split at hy'
      · cases hy'; exact hx
      · cases hy'
    · rw [Array.getElem?_setIfInBounds_ne z] at hy'
      exact G.off i y e hy'
theorem Good.lt (G : Good B s) {i : Nat} {r : GenState} (e : B i = some r) : i < s.gens.size := (Array.getElem?_eq_some_iff.mp (G.on i r e).1).1
theorem Good.free (G : Good B s) : B s.gens.size = none := by
  cases e : B s.gens.size with
  | none => rfl
  | some r => exact absurd (G.lt e) (Nat.lt_irrefl _)
theorem Good.push (G : Good B s) {c : Code} : Good B { s with gens := s.gens.push (.fresh c) } := by
  refine ⟨fun i r e => ⟨?_, (G.on i r e).2⟩, fun i y e hy => ?_⟩
  · show (s.gens.push (.fresh c))[i]? = _
    rw [Array.getElem?_push_lt (G.lt e)]
    have h1 := (G.on i r e).1
    rw [Array.getElem?_eq_getElem (G.lt e)] at h1
    exact h1
  · have hy' : (s.gens.push (.fresh c))[i]? = some y := hy
    rw [Array.getElem?_push] at hy'
    split at hy'
    · cases hy'; trivial
    · exact G.off i y e hy'
theorem lift_push (G : Good B s) {c : Code} : lift B { s with gens := s.gens.push (.fresh c) } = { lift B s with gens := (lift B s).gens.push (.fresh c) } := by
  unfold lift
  simp only [Array.mapIdx_push, G.free, Option.getD_none]
theorem Good.notFresh (G : Good B s) {g : Nat} {x : GenState} (e : s.gens[g]? = some x) (hx : ¬ Susp x) : B g = none := by
  cases z : B g with
  | none => rfl
  | some r =>
    obtain ⟨h1, h2⟩ := G.on g r z
    rw [e] at h1
    cases h1
    cases r <;> first | exact h2.elim | exact (hx trivial).elim
theorem lift_seen (G : Good B s) {g : Nat} {st : GenState} (hg : s.gens[g]? = some st) : ∃ st', (lift B s).gens[g]? = some st' ∧ st'.seen = st.seen := by
  cases z : B g with
  | none => exact ⟨st, lift_off z hg, rfl⟩
  | some r =>
    have h1 := (G.on g r z).1
    rw [hg] at h1
    have h2 : st = dead r := Option.some.inj h1
    exact ⟨r, lift_on G z, by rw [h2, seen_dead]⟩
theorem cleanG {e : End} (h : CleanE e) : CleanS e.genState := by
  cases e with
  | ret => trivial
  | susp => exact h
end

theorem runs_lift {B : Nat → Option GenState} {M : Model} {Γ : Ctx} {p : Pos} {t : Sem PySem.Fin} {fs : List Frame} {s s' : Shared} {e : End} (h : Runs M Γ p t fs s e s') :
    splitAtGen fs = none → Good B s → Good B s' ∧ CleanE e ∧ Runs M Γ p t fs (lift B s) e (lift B s') := by
  induction h with
  | done => intro _ G; exact ⟨G, trivial, .done⟩
  | raise => intro _ G; exact ⟨G, trivial, .raise⟩
  | again hq _ ih => intro hf G; obtain ⟨a, b, c⟩ := ih hf G; exact ⟨a, b, .again hq c⟩
  | rule _ ih => intro hf G; obtain ⟨a, b, c⟩ := ih hf G; exact ⟨a, b, .rule c⟩
  | «at» _ ih => intro hf G; obtain ⟨a, b, c⟩ := ih hf G; exact ⟨a, b, .at c⟩
  | load ho _ ih => intro hf G; obtain ⟨a, b, c⟩ := ih hf G; exact ⟨a, b, .load ho c⟩
  | update ho _ ih => intro hf G; obtain ⟨a, b, c⟩ := ih hf ⟨G.on, G.off⟩; exact ⟨a, b, .update ho c⟩
  | loadIfAlive _ ih => intro hf G; obtain ⟨a, b, c⟩ := ih hf G; exact ⟨a, b, .loadIfAlive c⟩
  | point _ ih => intro hf G; obtain ⟨a, b, c⟩ := ih hf G; exact ⟨a, b, .point c⟩
  | alloc _ ih => intro hf G; obtain ⟨a, b, c⟩ := ih hf ⟨G.on, G.off⟩; exact ⟨a, b, .alloc c⟩
  | fresh _ ih => intro hf G; obtain ⟨a, b, c⟩ := ih hf ⟨G.on, G.off⟩; exact ⟨a, b, .fresh c⟩
  | ask _ ih => intro hf G; obtain ⟨a, b, c⟩ := ih hf G; exact ⟨a, b, .ask c⟩
  | choose hn _ ih => intro hf G; obtain ⟨a, b, c⟩ := ih hf ⟨G.on, G.off⟩; exact ⟨a, b, .choose hn c⟩
  | os _ ih => intro hf G; obtain ⟨a, b, c⟩ := ih hf ⟨G.on, G.off⟩; exact ⟨a, b, .os c⟩
  | handled _ ih => intro hf G; obtain ⟨a, b, c⟩ := ih hf G; exact ⟨a, b, .handled c⟩
  | genState hg _ ih =>
    intro hf G
    obtain ⟨a, b, c⟩ := ih hf G
    obtain ⟨st', h1, h2⟩ := lift_seen G hg
    rw [← h2] at c
    exact ⟨a, b, .genState h1 c⟩
  | stack _ ih => intro hf G; obtain ⟨a, b, c⟩ := ih hf G; exact ⟨a, b, .stack c⟩
  | thread _ ih => intro hf G; obtain ⟨a, b, c⟩ := ih hf G; exact ⟨a, b, .thread c⟩
  | newGen _ ih =>
    intro hf G
    obtain ⟨a, b, c⟩ := ih hf G.push
    rw [lift_push G] at c
    refine ⟨a, b, .newGen ?_⟩
    rw [lift_size]
    exact c
  | call _ _ ih1 ih2 =>
    intro hf G
    obtain ⟨a, _, c⟩ := ih1 rfl G
    obtain ⟨a2, b2, c2⟩ := ih2 hf a
    exact ⟨a2, b2, .call c c2⟩
  | callSusp _ ih =>
    intro hf G
    obtain ⟨a, b, c⟩ := ih rfl G
    exact ⟨a, split_app b split_ret, .callSusp c⟩
  | yield => intro hf G; exact ⟨G, rfl, .yield⟩
  | resumeFresh hg _ hq _ ih1 ih2 =>
    intro hf G
    have z := G.notFresh hg (fun h => h)
    obtain ⟨a, b, c⟩ := ih1 rfl (G.set z trivial)
    obtain ⟨a2, b2, c2⟩ := ih2 hf (a.set z (cleanG b))
    rw [lift_set z] at c c2
    exact ⟨a2, b2, .resumeFresh (lift_off z hg) c hq c2⟩
  | @resumeSuspended Γ₁ p₁ g r l k s₁ k₀ l₀ c₀ p₀ fs₁ cl e₁ s₂ e₂ s₃ hg hr hq _ ih1 ih2 =>
    intro hf G
    cases z : B g with
    | some r =>
      have h1 := (G.on g r z).1
      have h3 := (G.on g r z).2
      rw [hg] at h1
      cases r with
      | suspended k' l' c' p' fs' cl' =>
        have h2 := Option.some.inj h1
        simp only [dead, GenState.suspended.injEq] at h2
        rw [h2.1] at hr
        exact (runs_stuck (w := "") hr rfl).elim
      | _ => exact h3.elim
    | none =>
      have hc : splitAtGen fs₁ = none := G.off g _ z hg
      obtain ⟨a, b, c⟩ := ih1 hc (G.set z trivial)
      obtain ⟨a2, b2, c2⟩ := ih2 hf (a.set z (cleanG b))
      rw [lift_set z] at c c2
      exact ⟨a2, b2, .resumeSuspended (lift_off z hg) c hq c2⟩
  | resumeJustStarted hg hv _ ih =>
    intro hf G
    have z := G.notFresh hg (fun h => h)
    obtain ⟨a, b, c⟩ := ih hf G
    exact ⟨a, b, .resumeJustStarted (lift_off z hg) hv c⟩
  | resumeThrowFresh hg _ ih =>
    intro hf G
    have z := G.notFresh hg (fun h => h)
    obtain ⟨a, b, c⟩ := ih hf (G.set z trivial)
    rw [lift_set z] at c
    exact ⟨a, b, .resumeThrowFresh (lift_off z hg) c⟩
  | resumeRunning hg _ ih =>
    intro hf G
    have z := G.notFresh hg (fun h => h)
    obtain ⟨a, b, c⟩ := ih hf G
    exact ⟨a, b, .resumeRunning (lift_off z hg) c⟩
  | resumeFinished hg _ ih =>
    intro hf G
    have z := G.notFresh hg (fun h => h)
    obtain ⟨a, b, c⟩ := ih hf G
    exact ⟨a, b, .resumeFinished (lift_off z hg) c⟩
  | segRet _ _ ih1 ih2 =>
    intro hf G
    obtain ⟨a, _, c⟩ := ih1 rfl G
    obtain ⟨a2, b2, c2⟩ := ih2 (split_tail hf) a
    exact ⟨a2, b2, .segRet c c2⟩
  | segGen _ _ ih1 ih2 => intro hf G; cases hf
  | segSuspOut hs _ ih =>
    intro hf G
    obtain ⟨a, b, c⟩ := ih rfl G
    exact ⟨a, split_app b hs, .segSuspOut hs c⟩
  | segSuspGen hs _ hq _ ih1 ih2 =>
    intro hf G
    rw [hf] at hs
    cases hs

theorem wakes_lift {B : Nat → Option GenState} {M : Model} {Γ : Ctx} {p : Pos} {g : Nat} {r : Resume} {s s' : Shared} {res : GenResult} (G : Good B s) (h : Wakes M Γ p g r s res s') : Good B s' ∧ Wakes M Γ p g r (lift B s) res (lift B s') := by
  cases e : s.gens[g]? with
  | none =>
    unfold Wakes at h
    rw [e] at h
    exact h.elim
  | some x =>
    cases z : B g with
    | some q =>
      obtain ⟨h1, h2⟩ := G.on g q z
      rw [e] at h1
      cases q with
      | suspended k' l' c' p' fs' cl' =>
        have h3 := Option.some.inj h1
        subst h3
        unfold Wakes at h
        rw [e] at h
        obtain ⟨e₁, s₁, hr, _⟩ := h
        exact (runs_stuck (w := "") hr rfl).elim
      | _ => exact h2.elim
    | none =>
      have el := lift_off (s := s) z e
      unfold Wakes at h ⊢
      rw [el]
      rw [e] at h
      cases x with
      | fresh c =>
        cases r with
        | send v =>
          cases v <;> first
            | (obtain ⟨rfl, rfl⟩ := h; exact ⟨G, rfl, rfl⟩)
            | (obtain ⟨e₁, s₁, hr, hq, rfl, rfl⟩ := h
               obtain ⟨a, b, c⟩ := runs_lift hr rfl (G.set z trivial)
               rw [lift_set z] at c
               exact ⟨a.set z (cleanG b), e₁, _, c, hq, rfl, lift_set z⟩)
        | throw x =>
          obtain ⟨rfl, rfl⟩ := h
          exact ⟨G.set z trivial, rfl, lift_set z⟩
      | suspended k l c p fs cl =>
        obtain ⟨e₁, s₁, hr, hq, rfl, rfl⟩ := h
        have hc : splitAtGen fs = none := G.off g _ z e
        obtain ⟨a, b, c⟩ := runs_lift hr hc (G.set z trivial)
        rw [lift_set z] at c
        exact ⟨a.set z (cleanG b), e₁, _, c, hq, rfl, lift_set z⟩
      | running => obtain ⟨rfl, rfl⟩ := h; exact ⟨G, rfl, rfl⟩
      | finished => obtain ⟨rfl, rfl⟩ := h; exact ⟨G, rfl, rfl⟩

/-- what holds behind the real run -/
def Lifted (B : Nat → Option GenState) {α : Type} (Q : α → Pos → Shared → Prop) : α → Pos → Shared → Prop := fun a p s' => ∃ s₁, s' = lift B s₁ ∧ Good B s₁ ∧ Q a p s₁
theorem wp_lift {α : Type} (B : Nat → Option GenState) (M : Model) (Γ : Ctx) (t : Sem α) : ∀ (Q : α → Pos → Shared → Prop) (E : Value → Pos → Shared → Prop) (p : Pos) (s : Shared), Good B s → wp M Γ t Q E p s →
    wp M Γ t (Lifted B Q) (Lifted B E) p (lift B s) := by
  induction t with
  | pure a => intro Q E p s G h; exact ⟨s, rfl, G, h⟩
  | raise e => intro Q E p s G h; exact ⟨s, rfl, G, h⟩
  | unsupported _ => intro Q E p s _ h; exact h
  | finish _ => intro Q E p s _ h; exact h
  | rule _ k ih => intro Q E p s G h; exact ih () Q E p s G h
  | «at» p' k ih => intro Q E p s G h; exact ih () Q E p' s G h
  | load a _ k ih => intro Q E p s G h; obtain ⟨o, ho, h⟩ := h; exact ⟨o, ho, ih o Q E p s G h⟩
  | update a _ f k ih => intro Q E p s G h; exact ⟨h.1, ih () Q E p { s with heap := s.heap.update a f } ⟨G.on, G.off⟩ h.2⟩
  | loadIfAlive a k ih => intro Q E p s G h; exact ih _ Q E p s G h
  | point _ k ih => intro Q E p s G h; exact ih () Q E p s G h
  | register _ _ => intro Q E p s _ h; exact h
  | alloc o k ih => intro Q E p s G h; exact ih _ Q E p { s with heap := s.heap.push o } ⟨G.on, G.off⟩ h
  | fresh k ih => intro Q E p s G h; exact ih _ Q E p { s with toks := s.toks + 1 } ⟨G.on, G.off⟩ h
  | ask k ih => intro Q E p s G h; exact ih _ Q E p s G h
  | choose src m k ih => intro Q E p s G h; exact ⟨h.1, ih _ Q E p { s with drawn := s.drawn.bump src } ⟨G.on, G.off⟩ h.2⟩
  | os q _ k ih => intro Q E p s G h; exact ih _ Q E p { s with os := (Os.step s.os q).1 } ⟨G.on, G.off⟩ h
  | call c hd _ _ k ih =>
    intro Q E p s G h
    obtain ⟨r, s', hr, h⟩ := h
    obtain ⟨a, _, c⟩ := runs_lift hr rfl G
    exact ⟨r, lift B s', c, ih r Q E p s' a h⟩
  | handled own k ih => intro Q E p s G h; exact ih _ Q E p s G h
  | genState g k ih =>
    intro Q E p s G h
    obtain ⟨st, hs, h⟩ := h
    cases z : B g with
    | none => exact ⟨st, lift_off z hs, ih _ Q E p s G h⟩
    | some r =>
      have h1 := (G.on g r z).1
      rw [hs] at h1
      have h2 : st = dead r := Option.some.inj h1
      rw [h2, seen_dead] at h
      exact ⟨r, lift_on G z, ih _ Q E p s G h⟩
  | newGen c k ih =>
    intro Q E p s G h
    have h2 := ih _ Q E p _ G.push h
    rw [lift_push G] at h2
    show wp M Γ (k (lift B s).gens.size) _ _ p _
    rw [lift_size]
    exact h2
  | resume g r _ k ih =>
    intro Q E p s G h
    obtain ⟨res, s', hw, h⟩ := h
    obtain ⟨a, b⟩ := wakes_lift G hw
    exact ⟨res, lift B s', b, ih res Q E p s' a h⟩
  | yield _ _ _ _ => intro Q E p s _ h; exact h
  | stack k ih => intro Q E p s G h; exact ih _ Q E p s G h
  | fork _ _ => intro Q E p s _ h; exact h
  | thread k ih => intro Q E p s G h; exact ih _ Q E p s G h
  | await _ _ _ _ _ => intro Q E p s _ h; exact h

theorem wpAny_lift {α : Type} {B : Nat → Option GenState} {M : Model} {A : Around} {t : Sem α} {Q : α → Shared → Prop} {E : Value → Shared → Prop} {s : Shared} (G : Good B s) (h : wpAny M A t Q E s) :
    wpAny M A t (fun a s' => ∃ s₁, s' = lift B s₁ ∧ Good B s₁ ∧ Q a s₁) (fun e s' => ∃ s₁, s' = lift B s₁ ∧ Good B s₁ ∧ E e s₁) (lift B s) :=
  fun Γ p hΓ => wp_lift B M Γ t _ _ p s G (h Γ p hΓ)

/-! ### all sleepers put to death, and back -/
/-- the sleepers of an array -/
def sleepers (G : Array GenState) : Nat → Option GenState := fun i => match G[i]? with
  | some (.suspended k l c p fs cl) => some (.suspended k l c p fs cl)
  | _ => none
def deaden (s : Shared) : Shared := { s with gens := s.gens.map dead }
theorem good_deaden (s : Shared) : Good (sleepers s.gens) (deaden s) := by
  refine ⟨fun i r e => ?_, fun i x e hx => ?_⟩
  · show (s.gens.map dead)[i]? = _ ∧ _
    rw [Array.getElem?_map]
    unfold sleepers at e
    cases h : s.gens[i]? with
    | none => rw [h] at e; cases e
    | some y => rw [h] at e; cases y <;> cases e <;> exact ⟨rfl, trivial⟩
  · have hx' : (s.gens.map dead)[i]? = some x := hx
    rw [Array.getElem?_map] at hx'
    unfold sleepers at e
    cases h : s.gens[i]? with
    | none => rw [h] at hx'; cases hx'
    | some y =>
      rw [h] at hx' e
      cases y <;> first | (cases hx'; trivial) | cases e
theorem lift_deaden (s : Shared) : lift (sleepers s.gens) (deaden s) = s := by
  obtain ⟨hp, gs, d, tk, os⟩ := s
  unfold lift deaden
  congr 1
  apply Array.ext_getElem?
  intro i
  simp only [Array.getElem?_mapIdx, Array.getElem?_map, sleepers]
  cases h : gs[i]? with
  | none => rfl
  | some y => cases y <;> rfl
theorem bare_dead {x : GenState} : (dead x).bare = x.bare := by cases x <;> rfl
theorem bare_deaden {s : Shared} (h : ∀ x ∈ s.gens, x.bare = true) : ∀ x ∈ (deaden s).gens, x.bare = true := by
  intro x hx
  obtain ⟨y, hy, rfl⟩ := Array.mem_map.mp (show x ∈ s.gens.map dead from hx)
  rw [bare_dead]; exact h y hy
theorem bare_lift {G : Array GenState} {s : Shared} (hG : ∀ x ∈ G, x.bare = true) (h : ∀ x ∈ s.gens, x.bare = true) : ∀ x ∈ (lift (sleepers G) s).gens, x.bare = true := by
  intro x hx
  obtain ⟨i, hi, e⟩ := Array.mem_iff_getElem.mp hx
  have e' : (lift (sleepers G) s).gens[i]? = some x := by rw [Array.getElem?_eq_getElem hi, e]
  rw [lift_get] at e'
  cases h1 : s.gens[i]? with
  | none => rw [h1] at e'; cases e'
  | some y =>
    rw [h1] at e'
    cases h2 : sleepers G i with
    | none =>
      rw [h2] at e'
      have e2 : y = x := Option.some.inj e'
      subst e2
      exact h y (Array.mem_of_getElem? h1)
    | some r =>
      rw [h2] at e'
      have e2 : r = x := Option.some.inj e'
      subst e2
      unfold sleepers at h2
      cases h3 : G[i]? with
      | none => rw [h3] at h2; cases h2
      | some z =>
        rw [h3] at h2
        have hz := hG z (Array.mem_of_getElem? h3)
        cases z <;> cases h2 <;> exact hz
/-- a sleeper stands as it stood behind any run that does not wake it -/
theorem wpAny_sleeping {α : Type} {M : Model} {A : Around} {t : Sem α} {Q : α → Shared → Prop} {E : Value → Shared → Prop} {s : Shared} (h : wpAny M A t Q E (deaden s)) :
    wpAny M A t (fun a s' => ∃ s₁, s' = lift (sleepers s.gens) s₁ ∧ Good (sleepers s.gens) s₁ ∧ Q a s₁) (fun e s' => ∃ s₁, s' = lift (sleepers s.gens) s₁ ∧ Good (sleepers s.gens) s₁ ∧ E e s₁) s := by
  have q := wpAny_lift (good_deaden s) h
  rw [lift_deaden] at q
  exact q
theorem sleeper_stays {s s₁ : Shared} {g : Nat} {k l c p fs cl} (hg : s.gens[g]? = some (.suspended k l c p fs cl)) (G : Good (sleepers s.gens) s₁) : (lift (sleepers s.gens) s₁).gens[g]? = some (.suspended k l c p fs cl) :=
  lift_on G (by unfold sleepers; rw [hg])
end Gx

/-! Gx2: for and if in a generator's body. -/
namespace Gx
open PySem PySem.Spec PyProof.Rows L2 GenW

section
variable {prog : Program} {w : World} {A : Around} {R : GenEnd} {Y : Protocol} {n : Nat} {s₀ s : Shared} {c : Code} {fs : List Frame} {env : Env}
  {K : Flow → Sem PySem.Fin} {Hx : Value → Sem PySem.Fin} {gd : Bool → Bool} {lv : List Value → List Value}
/-- what waits behind a loop of the frame -/
abbrev behindLoop (env : Env) (K : Flow → Sem PySem.Fin) (Hx : Value → Sem PySem.Fin) (gd : Bool → Bool) (lv : List Value → List Value) (c : Code) (p : Pos) : Frame :=
  .ret (fun r => ((match r with | .ok f => (.pure f : Sem Flow) | .error e => .raise e).onRaise (cameBack env)).wrap K Hx gd lv) none (gd false) (lv []) c p []
theorem seg_For {tg iter : Expr} {body : List Stmt} {pos : Pos} (hs : ∀ x, foldedSetIterable iter env x = pure x)
    (h : wpAny (model prog w) (A.over c fs) (eval iter env) (fun x s₁ => wpAny (model prog w) (A.over c fs) (pyIter x) (fun it s₂ =>
        ∀ p, Seg (model prog w) A R Y n s₀ (.forLoop tg it body [] env) ((model prog w).den (.forLoop tg it body [] env)) (behindLoop env K Hx gd lv c p :: fs) s₂)
      (fun x s' => Seg (model prog w) A R Y n s₀ c (Hx x) fs s') s₁) (fun x s' => Seg (model prog w) A R Y n s₀ c (Hx x) fs s') s) :
    Seg (model prog w) A R Y n s₀ c ((exec (.For tg iter body [] pos) env).wrap K Hx gd lv) fs s := by
  rw [exec_For]
  refine seg_bind_wrap (wpAny_standAt ?_)
  refine seg_bind_wrap (wpAny_mono h (fun x s₁ h₁ => ?_) fun _ _ z => z)
  refine seg_bind_wrap (wpAny_of_eq (hs x) ?_)
  refine seg_bind_wrap (wpAny_standAt ?_)
  refine seg_bind_wrap (wpAny_holding (wpAny_mono h₁ (fun it s₂ h₂ => ?_) fun _ _ z => z))
  exact seg_call h₂

/-- an exception leaves a loop's code -/
abbrev exLoop (env : Env) (x : Value) : Sem PySem.Fin := (do noteFrame x env; theTreesLotGoes x : Sem Unit).wrap (fun _ => .raise x) .raise id id
abbrev turnEnd (tg : Expr) (it : Value) (body : List Stmt) (env : Env) (f : Flow) : Sem PySem.Fin := match f with
  | .next | .cont => .pure (.again (.forLoop tg it body [] env))
  | .brk => .pure (.done .next)
  | .ret v => .pure (.done (.ret v))
theorem seg_forLoop {tg : Expr} {it : Value} {body : List Stmt}
    (h : wpAny (model prog w) (A.over (.forLoop tg it body [] env) fs) (pyNext it) (fun r s₁ => match r with
        | none => Seg (model prog w) A R Y n s₀ (.block [] env) ((model prog w).den (.block [] env)) fs s₁
        | some v => wpAny (model prog w) (A.over (.forLoop tg it body [] env) fs) (letOwnedTupleGo tg it v) (fun _ s₂ =>
            wpAny (model prog w) (A.over (.forLoop tg it body [] env) fs) (assign tg env v) (fun _ s₃ =>
              Seg (model prog w) A R Y n s₀ (.forLoop tg it body [] env) ((execs body env).wrap (turnEnd tg it body env) (exLoop env) id id) fs s₃)
            (fun x s' => Seg (model prog w) A R Y n s₀ (.forLoop tg it body [] env) (exLoop env x) fs s') s₂)
          (fun x s' => Seg (model prog w) A R Y n s₀ (.forLoop tg it body [] env) (exLoop env x) fs s') s₁)
      (fun x s' => Seg (model prog w) A R Y n s₀ (.forLoop tg it body [] env) (exLoop env x) fs s') s) :
    Seg (model prog w) A R Y n s₀ (.forLoop tg it body [] env) ((model prog w).den (.forLoop tg it body [] env)) fs s := by
  show Seg _ A R Y n s₀ _ ((forTurn tg it body [] env).onRaise (fun x => do noteFrame x env; theTreesLotGoes x)) fs s
  rw [Sem.onRaise_eq_wrap]
  have eH : (fun e => ((do noteFrame e env; theTreesLotGoes e : Sem Unit)).bind fun _ => (Sem.raise e : Sem PySem.Fin)) = exLoop env := by
    funext e
    rw [Sem.bind_eq_wrap]
  rw [eH]
  unfold forTurn
  refine seg_bind_wrap (wpAny_standAt ?_)
  refine seg_bind_wrap (wpAny_onRaise (wpAny_mono h (fun r s₁ h₁ => ?_) fun _ _ z => wpAny_standAt z))
  cases r with
  | none => exact seg_again rfl h₁
  | some v =>
    refine seg_bind_wrap (wpAny_mono h₁ (fun _ s₂ h₂ => ?_) fun _ _ z => z)
    refine seg_bind_wrap (wpAny_mono h₂ (fun _ s₃ h₃ => ?_) fun _ _ z => z)
    rw [Sem.bind_eq_wrap', Sem.wrap_wrap]
    rw [Sem.wrap_congr (execs body env) (H := fun e => Sem.wrap Sem.pure (exLoop env) id id (Sem.raise e)) _ _ (K' := turnEnd tg it body env) (H' := exLoop env) (fun f => by cases f <;> rfl) (fun _ => rfl)]
    exact h₃
theorem seg_block0 (h : Seg (model prog w) A R Y n s₀ (.block [] env) (.pure (.done .next)) fs s) : Seg (model prog w) A R Y n s₀ (.block [] env) ((model prog w).den (.block [] env)) fs s := h
theorem seg_If {test : Expr} {body orelse : List Stmt} {pos : Pos}
    (h : wpAny (model prog w) (A.over c fs) (isTrue test env (eval test env)) (fun b s' => if b = true then Seg (model prog w) A R Y n s₀ c ((execs body env).wrap K Hx gd lv) fs s' else Seg (model prog w) A R Y n s₀ c ((execs orelse env).wrap K Hx gd lv) fs s')
      (fun x s' => Seg (model prog w) A R Y n s₀ c (Hx x) fs s') s) :
    Seg (model prog w) A R Y n s₀ c ((exec (.If test body orelse pos) env).wrap K Hx gd lv) fs s := by
  rw [exec_If]
  refine seg_bind_wrap (wpAny_standAt ?_)
  refine seg_bind_wrap (wpAny_mono h (fun b s' hb => ?_) fun _ _ z => z)
  cases b with
  | true => exact hb
  | false => exact hb
end

section
variable {X : Cx} {tg : Expr}
def tGIf (tc : TT) (ta tb : TGn) : TGn := fun D ys σ H => tc σ H fun b H1 => if b = true then ta D ys σ H1 else tb D ys σ H1
theorem gs_if {test : Expr} {body orelse : List Stmt} {pos : Pos} {tc : TT} {ta tb : TGn} (hc : PT X test tc) (ha : GSs X body ta) (hb : GSs X orelse tb) : GS X (.If test body orelse pos) (tGIf tc ta tb) := by
  refine ⟨fun A S ip R n ys s₀ c fs K J gd lv s σ H D g hn k hI ht => ?_⟩
  obtain ⟨acc, cc, r, I⟩ := hI
  refine seg_If ?_
  rw [g.over]
  refine wpAny_mono (hc.run _ s σ H _ I ht) (fun b s' ⟨H2, I2, q2⟩ => ?_) fun xx s' hx => k.exc n s₀ xx s' hx
  cases b with
  | true => rw [if_pos rfl] at q2 ⊢; exact ha.run A S ip R n ys s₀ c fs K J gd lv s' σ H2 D g hn k ⟨acc, cc, r, I2⟩ q2
  | false => rw [if_neg Bool.false_ne_true] at q2 ⊢; exact hb.run A S ip R n ys s₀ c fs K J gd lv s' σ H2 D g hn k ⟨acc, cc, r, I2⟩ q2

def tGFor (wi : TI) (g : TG) (tb : TGn) : TGn := fun D ys σ H => wi σ H fun J H1 => ∃ W : Nat → Nat → List V → L2.St → Hp → Prop, (∃ m, W 0 m ys σ H1) ∧ ∀ i m ys σ H, W i m ys σ H →
  (J.stop i H ∧ D.nx ys σ H) ∨ (J.go i H ∧ ∃ N : List V → L2.St → Hp → Prop, (∀ ys' σ' H', N ys' σ' H' → ∃ m', m' < m ∧ W (i + 1) m' ys' σ' H') ∧
    ∀ x H', J.yld i H x H' → g x σ H' fun σ2 H2 => tb { D with nx := N, ct := N, bk := D.nx } ys σ2 H2)
theorem fpOk_list {S : Addr} {o o' : Obj} {ip : List (Addr × Obj)} {H H' : Hp} {b : Addr} (h : FpOk X ((S, o) :: ip) H b) (hn : H' b = none) : FpOk X ((S, o') :: ip) H' b :=
  ⟨hn, h.2.1, h.2.2.1, h.2.2.2.1, h.2.2.2.2.1, fun p hp => by
    rcases List.mem_append.mp hp with z | z
    · exact h.2.2.2.2.2 p (List.mem_append_left _ z)
    · rcases List.mem_cons.mp z with z | z
      · rw [z]; exact h.2.2.2.2.2 (S, o) (List.mem_append_right _ List.mem_cons_self)
      · exact h.2.2.2.2.2 p (List.mem_append_right _ (List.mem_cons_of_mem _ z))⟩
theorem gs_for {iter : Expr} {body : List Stmt} {wi : TI} {g : TG} {tb : TGn} {pos : Pos} (hp : PassesOwn (model X.prog X.w) X.A X.env X.xe) (hc : X.calm = true) (hi : PI X tg iter wi) (hg : PG X tg g) (hb : GSs X body tb)
    (hs : ∀ x, foldedSetIterable iter X.env x = pure x := by intro _; rfl) : GS X (.For tg iter body [] pos) (tGFor wi g tb) := by
  refine ⟨fun A S ip R n ys s₀ c fs K J gd lv s σ H D gc hn k hI ht => ?_⟩
  obtain ⟨acc0, cc0, r0, I0⟩ := hI
  refine seg_For hs ?_
  rw [gc.over]
  refine wpAny_mono (hi.run _ s σ H _ I0 ht) (fun v s1 h1 => wpAny_mono h1 (fun itv s2 h2 => ?_) fun xx s' hx => k.exc n s₀ xx s' hx) fun xx s' hx => k.exc n s₀ xx s' hx
  obtain ⟨it, fp, tn, Jt, H2, e, I2, T, st2, f2, W, ⟨m0, w0⟩, turn⟩ := h2
  subst e
  intro p
  have gl := fun (kk : Result → Sem PySem.Fin) => gc_loop (k := kk) (c' := .forLoop tg (.ref it) body [] X.env) (l := lv []) (kp := []) (p := p) gc rfl rfl
  have loop : ∀ (m i n : Nat) (ys : List V) (s₀ s : Shared) (σ : L2.St) (H : Hp) (acc : Array Value) (cc : Nat), n + ys.length = sizeLine → W i m ys σ H → Vals ys acc.toList → Inv X ((S, lstObj acc cc) :: ip) σ H s → tn i s.heap → (∀ b ∈ fp, FpOk X ((S, lstObj acc cc) :: ip) H b) →
      Seg (model X.prog X.w) A R (GY X S) n s₀ (.forLoop tg (.ref it) body [] X.env) ((model X.prog X.w).den (.forLoop tg (.ref it) body [] X.env)) (behindLoop X.env K J gd lv c p :: fs) s := by
    intro m
    induction m using Nat.strongRecOn with
    | ind m ih =>
      intro i n ys s₀ s σ H acc cc hn w racc I st ff
      have ee : ∀ (n : Nat) (s₀ : Shared) (xx : Value) (s' : Shared), X.xe xx s' → Seg (model X.prog X.w) A R (GY X S) n s₀ (.forLoop tg (.ref it) body [] X.env) (exLoop X.env xx) (behindLoop X.env K J gd lv c p :: fs) s' := fun n s₀ xx s' hx => by
        refine seg_wrap ?_
        rw [(gl _).over]
        refine wpAny_bind (wpAny_mono (hp xx s' hx) (fun _ s'' hcb => wpAny_theTreesLotGoes ?_) fun yy s'' hcb => ?_)
        · exact seg_leaf (.error xx) (seg_cameBack gc k hcb)
        · exact seg_leaf (.error yy) (seg_cameBack gc k hcb)
      refine seg_forLoop ?_
      rw [(gl _).over]
      rcases turn i m ys σ H w with ⟨stop, qn⟩ | ⟨go, N, hN, step⟩
      · refine wpAny_mono (T.done X rfl rfl rfl hc i _ s σ H X.xe I ff st stop) (fun rr s4 ⟨hr, I4⟩ => ?_) fun xx s' hx => ee n s₀ xx s' hx
        subst hr
        exact seg_block0 (seg_leaf (.ok .next) (k.ok n ys s₀ s4 .next hn ⟨σ, H, ⟨acc, cc, racc, I4⟩, qn⟩))
      · refine wpAny_mono (T.item X rfl rfl rfl hc i _ s σ H X.xe I ff st go) (fun rr s4 ⟨u, hr, h4⟩ => ?_) fun xx s' hx => ee n s₀ xx s' hx
        subst hr
        refine wpAny_mono h4 (fun _ s5 ⟨xv, H5, I5, r5, y5, st5, fr5⟩ => ?_) fun xx s' hx => ee n s₀ xx s' hx
        have ff5 : ∀ b ∈ fp, FpOk X ((S, lstObj acc cc) :: ip) H5 b := fun b hb => fpOk_list (ff b hb) (fr5 b hb)
        have I5' : Inv X ((S, lstObj acc cc) :: (ip ++ pinsAt fp s5.heap)) σ H5 s5 := I5.pinned ff5 (T.obj _ _ st5)
        refine wpAny_mono (hg.run _ s5 σ H5 xv u _ I5' r5 (step xv H5 y5)) (fun _ s6 ⟨σ6, H6, I6, q6⟩ => ?_) fun xx s' hx => ee n s₀ xx s' hx
        have gl2 : GC X S (ip ++ pinsAt fp s5.heap) A (.forLoop tg (.ref it) body [] X.env) (behindLoop X.env K J gd lv c p :: fs) id := by
          have g1 := gl (fun r => ((match r with | .ok f => (.pure f : Sem Flow) | .error e => .raise e).onRaise (cameBack X.env)).wrap K J gd lv)
          refine ⟨g1.pn, fun q hq => ?_, g1.apart, g1.over, g1.split, g1.guard, g1.gd⟩
          rcases List.mem_append.mp hq with z | z
          · exact g1.ip q z
          · obtain ⟨hb, _⟩ := of_pinsAt z
            exact fun eS => (ff q.1 hb).2.2.2.2.2 (S, lstObj acc cc) (List.mem_append_right _ List.mem_cons_self) eS.symm
        refine hb.run A S (ip ++ pinsAt fp s5.heap) R n ys s₀ _ _ _ _ id id s6 σ6 H6 { D with nx := N, ct := N, bk := D.nx } gl2 hn ⟨fun n' ys' s₀' s7 f hn' hs' => ?_, fun n' s₀' xx s7 hx => ee n' s₀' xx s7 hx⟩ ⟨acc, cc, racc, I6⟩ q6
        have more : ∀ {σ7 : L2.St} {H7 : Hp}, GI X S (ip ++ pinsAt fp s5.heap) ys' σ7 H7 s7 → N ys' σ7 H7 →
            Seg (model X.prog X.w) A R (GY X S) n' s₀' (.forLoop tg (.ref it) body [] X.env) (.pure (.again (.forLoop tg (.ref it) body [] X.env))) (behindLoop X.env K J gd lv c p :: fs) s7 := fun {σ7 H7} G7 n7 => by
          obtain ⟨acc7, cc7, r7, I7⟩ := G7
          obtain ⟨m', hm, w7⟩ := hN ys' σ7 H7 n7
          have pinned : ∀ b ∈ fp, ∀ o, s5.heap.get? b = some o → s7.heap.get? b = some o ∧ H7 b = none := fun b hb o eo => by
            have q := I7.pin (b, o) (List.mem_append_right _ (List.mem_cons_of_mem _ (List.mem_append_right _ (mem_pinsAt hb eo))))
            exact ⟨q.1, q.2.1⟩
          refine seg_again rfl (ih m' hm (i + 1) n' ys' s₀' s7 σ7 H7 acc7 cc7 hn' w7 r7 ?_ (T.keep _ _ _ st5 fun b hb o eo => (pinned b hb o eo).1) fun b hb => ?_)
          · exact Inv.unpinned (pins := (S, lstObj acc7 cc7) :: ip) (pl := pinsAt fp s5.heap) I7
          · obtain ⟨o, eo, _⟩ := T.obj _ _ st5 b hb
            exact fpOk_list (ff b hb) (pinned b hb o eo).2
        have back : ∀ {σ7 : L2.St} {H7 : Hp}, GI X S (ip ++ pinsAt fp s5.heap) ys' σ7 H7 s7 → GI X S ip ys' σ7 H7 s7 := fun {σ7 H7} G7 => by
          obtain ⟨acc7, cc7, r7, I7⟩ := G7
          exact ⟨acc7, cc7, r7, Inv.unpinned (pins := (S, lstObj acc7 cc7) :: ip) (pl := pinsAt fp s5.heap) I7⟩
        cases f with
        | next => obtain ⟨σ7, H7, G7, n7⟩ := hs'; exact more G7 n7
        | cont => obtain ⟨σ7, H7, G7, n7⟩ := hs'; exact more G7 n7
        | brk => obtain ⟨σ7, H7, G7, n7⟩ := hs'; exact seg_leaf (.ok .next) (k.ok n' ys' s₀' s7 .next hn' ⟨σ7, H7, back G7, n7⟩)
        | ret v7 => obtain ⟨x7, σ7, H7, G7, rr7, n7⟩ := hs'; exact seg_leaf (.ok (.ret v7)) (k.ok n' ys' s₀' s7 (.ret v7) hn' ⟨x7, σ7, H7, back G7, rr7, n7⟩)
  exact loop m0 0 n ys s₀ s2 σ H2 acc0 cc0 hn w0 r0 I2 st2 f2
end
end Gx

/-! Gx3: enumerate over a generator, at the machine's level. -/
namespace Gx
open PySem PySem.Spec PyProof.Rows L2 GenW
open AutoSeq1 (wpAny_loadPart')

/-! ### its making -/
def enumObj (it : Addr) (i : Int) (old : Value) : Obj := { cls := .type "enumerate", dict := none, data := .fields #[.none, .bool false, .ref it, rawInt i, .none, old], slots := #[] }
theorem meets_enum_gen (a : Addr) (g : Nat) :
    Meets (Builtin.«enumerate.__new__» ⟨[.type "enumerate", .ref a], []⟩) (fun _ R s => s.heap.IsGen a g ∧
      R (.ok (.ret (.ref s.heap.objs.size))) { s with heap := s.heap.push (enumObj a 0 .none) }) :=
  .of_wp fun prog w A R s h => by
    obtain ⟨hp, gn, d, tk, os⟩ := s
    obtain ⟨hg, h⟩ := h
    obtain ⟨o, nm, qn, ho, hc, hd, hs⟩ := id hg
    have hsub := sub_enumerate
    have q1 : ∀ {A' : Around} {E : Value → Shared → Prop} {Q : Value → Shared → Prop}, Q (.ref a) ⟨hp, gn, d, tk, os⟩ → wpAny (model prog w) A' (pyIter (.ref a)) Q E ⟨hp, gn, d, tk, os⟩ :=
      fun q => wpAny_pyIter_gen hg q
    wp_walk using q1, wpAny_loadPart' ho
    refine wpAny_stack_any fun st => wpAny_pure ?_
    split
    · rename_i c _ _ _ _ _
      cases (c == Value.type "enumerate")
      · wp_walk using q1, wpAny_loadPart' ho
        exact ⟨_, rfl, h⟩
      · wp_walk using q1, wpAny_loadPart' ho
        exact ⟨_, rfl, h⟩
    · wp_walk using q1, wpAny_loadPart' ho
      exact ⟨_, rfl, h⟩
theorem call_enum_gen {prog : Program} {w : World} {A : Around} {E : Value → Shared → Prop} {s : Shared} {a : Addr} {g : Nat} {Q : Value → Shared → Prop} (hg : s.heap.IsGen a g)
    (h : Q (.ref s.heap.objs.size) { s with heap := s.heap.push (enumObj a 0 .none) }) : wpAny (model prog w) A (call (.type "enumerate") [.ref a]) Q E s := by
  refine callType_new F.called_enumerate (by decide) (F.typeCall_enumerate_1 _) (F.newCall_enumerate_1 _) (fun obj => F.args_object_init_2 obj _) F.entry_enumerate_new
    (meets_enum_gen a g) ⟨hg, ?_⟩
  exact ⟨⟨_, Heap.get?_push_size _ rfl, rfl⟩, h⟩

/-! ### its next -/
section
variable {P : Program} {w : World} {A : Around} {E : Value → Shared → Prop} {s : Shared}
/-- a generator's next, told by what it does -/
theorem nextOf_gen {a : Addr} {g n : Nat} {gs : GenState} {F : Nat → Shared → Shared → Prop} {Y : Protocol} {Q : Value → Shared → Prop} (hh : A.handled = none)
    (hl : s.heap.NoLimit) (hroom : A.depth < recursionLimit) (hg : s.heap.IsGen a g) (hgs : s.gens[g]? = some gs)
    (hgo : gs.Goes (model P w) A.in1 (fun n s₀ r s₁ => (r = .ok (.ret .none) ∨ r = .ok .next) ∧ F n s₀ s₁) Y n (.send .none) (s.setGen g .running))
    (hY : ∀ v s₁ gs', gs'.bare = true → Y (n - 1) (s.setGen g .running) v s₁ (fun r' s'' => match n with
        | 0 => False
        | m + 1 => gs'.Goes (model P w) A.in1 (fun n s₀ r s₁ => (r = .ok (.ret .none) ∨ r = .ok .next) ∧ F n s₀ s₁) Y m r' s'') → Q v (s₁.setGen g gs'))
    (hP : ∀ s₁, F n (s.setGen g .running) s₁ → ∀ h' ex, (∀ b o, s₁.heap.get? b = some o → h'.get? b = some o) → (∃ o, h'.get? ex = some o ∧ o.cls = .type "StopIteration") → E (.ref ex) { s₁.setGen g .finished with heap := h' }) :
    wpAny (model P w) A (Builtin.SmallTypes.nextOf (.ref a)) Q E s := by
  unfold Builtin.SmallTypes.nextOf
  refine wpAny_bind (wpAny_callSpecial?_slot (name := Str.ofString "__next__") hg.typeIs slot_gen_next (wpAny_call_entry slot_gen_next hg.typeIs entry_gen_next ?_ (args_gen_next _)))
  show wpAny _ A.in1 (Builtin.Generator.genWake (.ref a) (.send .none)) _ _ s
  unfold Builtin.Generator.genWake
  refine wpAny_bind (wpAny_holding (wpAny_genNumber hg (wpAny_bind (wpAny_genState hgs ?_))))
  cases gs with
  | running => exact hgo.elim
  | finished => exact hgo.elim
  | _ =>
    refine wpAny_bind (wpAny_roomToWake hl hroom ?_)
    show wpAny _ A.in1 (.resume g (.send .none) [] _) _ _ s
    refine wpAny_resumeQ hgs hgo (fun x s₁ hx => ?_) (fun v s₁ gs' hb hv => ?_)
    · obtain ⟨hr, hp⟩ := hx
      have hres : End.result (.ret x) = .returned .none := by rcases hr with hr | hr <;> rw [hr] <;> rfl
      first | rw [hres] | simp only [hres]
      show wpAny _ A.in1 (newExc (.type "StopIteration") [] >>= _) _ _ _
      refine wpAny_bind ?_
      simp only [newExc, newTuple]
      refine wpAny_bind (wpAny_newObj_type ?_ (by size_fits))
      refine wpAny_bind (m := firstArgMember _ _) (wpAny_of_eq (a := Value.none) (by first | rfl | (simp only [firstArgMember]; rfl)) ?_)
      refine wpAny_newObj_type ?_ (by size_fits)
      simp only [raiseNew]
      refine wpAny_bind (wpAny_bind (wpAny_handled ?_))
      first | rw [show A.in1.handled = none from hh] | rw [hh]
      refine wpAny_throw ?_
      exact hP s₁ hp _ _ (fun b o hb => Heap.get?_push_of_some _ (Heap.get?_push_of_some _ hb)) ⟨_, Heap.get?_push_size _ rfl, rfl⟩
    · exact wpAny_pure ⟨v, rfl, wpAny_pure (hY v s₁ gs' hb hv)⟩

/-- what enumerate's next does behind the item -/
theorem enum_next {e it : Addr} {c : Int} {old : Value} {Q : Value → Shared → Prop} (he : IsEnum s.heap e it c old)
    (hn : wpAny (model P w) A (Builtin.SmallTypes.nextOf (.ref it)) (fun x s₁ => IsEnum s₁.heap e it c old ∧ ∀ h', IsEnumOut h' e it (c + 1) x s₁.heap.objs.size →
        h'.get? s₁.heap.objs.size = some { cls := .type "tuple", data := .seq #[.int c s₁.toks, x] } → h'.objs.size = s₁.heap.objs.size + 1 →
        (∀ b o, b ≠ e → s₁.heap.get? b = some o → h'.get? b = some o) → Q (.ref s₁.heap.objs.size) { s₁ with heap := h', toks := s₁.toks + 1 }) E s) :
    wpAny (model P w) A (Builtin.«enumerate.__next__» ⟨[.ref e], []⟩) (fun fin s' => ∃ v, fin = .done (.ret v) ∧ Q v s') E s := by
  show wpAny _ _ (field (.ref e) 2 >>= _) _ _ _
  refine wpAny_bind (wpAny_field he rfl (x := .ref it) rfl ?_)
  refine wpAny_bind (wpAny_mono hn (fun x s₁ ⟨he₁, hQ⟩ => ?_) fun _ _ z => z)
  obtain ⟨h₁, g, d, tk, os⟩ := s₁
  replace he₁ : IsEnum h₁ e it c old := he₁
  show wpAny _ _ (field (.ref e) 3 >>= _) _ _ ⟨h₁, g, d, tk, os⟩
  refine wpAny_bind (wpAny_field he₁ rfl (x := rawInt c) rfl ?_)
  show wpAny _ _ (field (.ref e) 4 >>= _) _ _ ⟨h₁, g, d, tk, os⟩
  refine wpAny_bind (wpAny_field he₁ rfl (x := .none) rfl ?_)
  show wpAny _ _ (mkInt c >>= _) _ _ ⟨h₁, g, d, tk, os⟩
  refine wpAny_bind (wpAny_mkInt ?_)
  show wpAny _ _ (setField (.ref e) 3 (rawInt (c + 1)) >>= _) _ _ ⟨h₁, g, d, tk + 1, os⟩
  refine wpAny_bind (wpAny_setField_rec he₁ (by simp) fun h₂ he₂ hs₂ => ?_)
  replace hs₂ : Heap.SameBut e h₁ h₂ := hs₂
  replace he₂ : IsEnum h₂ e it (c + 1) old := he₂
  show wpAny _ _ (setField (.ref e) 4 .none >>= _) _ _ ⟨h₂, g, d, tk + 1, os⟩
  refine wpAny_bind (wpAny_setField_rec he₂ (by simp) fun h₃ he₃ hs₃ => ?_)
  replace hs₃ : Heap.SameBut e h₂ h₃ := hs₃
  replace he₃ : IsEnum h₃ e it (c + 1) old := he₃
  show wpAny _ _ (newTuple [.int c tk, x] >>= _) _ _ ⟨h₃, g, d, tk + 1, os⟩
  refine wpAny_bind (wpAny_newTuple ?_)
  have he₄ : IsEnum (h₃.push { cls := .type "tuple", data := .seq #[.int c tk, x] }) e it (c + 1) old := Heap.get?_push_of_some _ he₃
  have hsz : h₃.objs.size = h₁.objs.size := by rw [hs₃.1, hs₂.1]
  have hel : e < h₁.objs.size := Heap.lt_size he₁
  have ht₄ : (h₃.push { cls := .type "tuple", data := .seq #[.int c tk, x] }).get? h₁.objs.size = some { cls := .type "tuple", data := .seq #[.int c tk, x] } := by rw [← hsz]; exact Heap.get?_push_size _ rfl
  have hz₄ : (h₃.push { cls := .type "tuple", data := .seq #[.int c tk, x] }).objs.size = h₁.objs.size + 1 := by rw [Heap.size_push, hsz]
  have hk₄ : ∀ b o, b ≠ e → h₁.get? b = some o → (h₃.push { cls := .type "tuple", data := .seq #[.int c tk, x] }).get? b = some o := fun b o hbe hb =>
    Heap.get?_push_of_some _ (hs₃.extBut b o hbe (hs₂.extBut b o hbe hb))
  generalize (h₃.push { cls := .type "tuple", data := .seq #[.int c tk, x] }) = h₄ at he₄ ht₄ hz₄ hk₄ ⊢
  rw [hsz]
  show wpAny _ _ (Builtin.SmallTypes.ownedTupleIsFree (.ref e) >>= _) _ _ ⟨h₄, g, d, tk + 1, os⟩
  refine wpAny_bind ?_
  unfold Builtin.SmallTypes.ownedTupleIsFree
  refine wpAny_bind (wpAny_field he₄ rfl (x := .none) rfl (wpAny_pure ?_))
  simp only [if_true]
  refine wpAny_bind (wpAny_rule ?_)
  refine wpAny_bind (wpAny_field he₄ rfl (x := old) rfl ?_)
  refine wpAny_bind (wpAny_setField_rec he₄ (by simp) fun h₅ he₅ hs₅ => ?_)
  replace hs₅ : Heap.SameBut e h₄ h₅ := hs₅
  replace he₅ : IsEnum h₅ e it (c + 1) x := he₅
  show wpAny _ _ (Builtin.SmallTypes.ownedTupleHandOut (.ref e) (.ref h₁.objs.size) >>= _) _ _ ⟨h₅, g, d, tk + 1, os⟩
  refine wpAny_bind ?_
  unfold Builtin.SmallTypes.ownedTupleHandOut
  refine wpAny_bind (wpAny_setField_rec he₅ (by simp) fun h₆ he₆ hs₆ => ?_)
  replace hs₆ : Heap.SameBut e h₅ h₆ := hs₆
  replace he₆ : IsEnumOut h₆ e it (c + 1) x h₁.objs.size := he₆
  refine wpAny_setField_rec he₆ (by simp) fun h₇ he₇ hs₇ => ?_
  replace hs₇ : Heap.SameBut e h₆ h₇ := hs₇
  replace he₇ : IsEnumOut h₇ e it (c + 1) x h₁.objs.size := he₇
  have up : ∀ b o, b ≠ e → h₄.get? b = some o → h₇.get? b = some o := fun b o hbe hb => hs₇.extBut b o hbe (hs₆.extBut b o hbe (hs₅.extBut b o hbe hb))
  refine wpAny_bind (wpAny_letGo (wpAny_pure ⟨_, rfl, hQ h₇ he₇ (up _ _ (Nat.ne_of_gt hel) ht₄) ?_ fun b o hbe hb => up b o hbe (hk₄ b o hbe hb)⟩))
  rw [hs₇.1, hs₆.1, hs₅.1, hz₄]
theorem pyNext_enum_some {e it : Addr} {c : Int} {old : Value} {Q : Option Value → Shared → Prop} (he : IsEnum s.heap e it c old)
    (hn : wpAny (model P w) A.in1 (Builtin.SmallTypes.nextOf (.ref it)) (fun x s₁ => IsEnum s₁.heap e it c old ∧ ∀ h', IsEnumOut h' e it (c + 1) x s₁.heap.objs.size →
        h'.get? s₁.heap.objs.size = some { cls := .type "tuple", data := .seq #[.int c s₁.toks, x] } → h'.objs.size = s₁.heap.objs.size + 1 →
        (∀ b o, b ≠ e → s₁.heap.get? b = some o → h'.get? b = some o) → Q (some (.ref s₁.heap.objs.size)) { s₁ with heap := h', toks := s₁.toks + 1 })
      (fun x s₁ => ∃ ex o, x = .ref ex ∧ s₁.heap.get? ex = some o ∧ o.cls = .type "StopIteration" ∧ Q none s₁) s) : wpAny (model P w) A (pyNext (.ref e)) Q E s := by
  have hT : s.TypeIs (.ref e) "enumerate" := ⟨_, he, rfl⟩
  unfold pyNext
  refine wpAny_bind (wpAny_attempt (wpAny_callSpecial?_slot (name := Str.ofString "__next__") hT F.slot_enumerate_next (wpAny_call_entry F.slot_enumerate_next hT F.entry_enumerate_next ?_ (F.args_enumerate_next_1 _))))
  refine wpAny_mono (enum_next (Q := fun v s' => Q (some v) s') he (wpAny_mono hn (fun x s₁ z => z) fun x s₁ z => z)) (fun fin s' ⟨v, e1, q⟩ => ⟨v, e1, wpAny_pure q⟩) fun x s₁ z => ?_
  obtain ⟨ex, o, rfl, ho, hc, q⟩ := z
  refine wpAny_bind (wpAny_isInstance (T := "StopIteration") (b := true) ⟨o, ho, hc⟩ isSubtype_stop ?_)
  exact wpAny_pure q
end
end Gx

/-! Gx4: enumerate over a list or a tuple (b tells which). -/
namespace Gx
open PySem PySem.Spec PyProof.Rows L2
open AutoSeq1 (wpAny_loadPart')

def SqX (b : Bool) (K : PySem.W.Frag) (H : Hp) (a : Addr) (xs : List V) : Prop := match b with
  | true => SqT K H a xs
  | false => SqL K H a xs
def IsItX (b : Bool) (h : Heap) (it a : Addr) (i : Nat) : Prop := match b with
  | true => h.IsTupleIter it a i
  | false => h.IsListIter it a i
def IsSeqX (b : Bool) (h : Heap) (a : Addr) (items : Array Value) : Prop := match b with
  | true => h.IsTuple a items
  | false => h.IsList a items
def itObjX (b : Bool) (a : Addr) : Obj := match b with
  | true => { cls := .type "tuple_iterator", data := .fields #[.ref a, .int 0 0] }
  | false => { cls := .type "list_iterator", data := .fields #[.ref a, .int 0 0] }
theorem itX_new {b : Bool} {h : Heap} {it a : Addr} (e : h.get? it = some (itObjX b a)) : IsItX b h it a 0 := by
  cases b
  · exact ⟨_, e, rfl, rfl⟩
  · exact ⟨_, e, rfl, rfl⟩
theorem itX_obj {b : Bool} {h : Heap} {it a : Addr} {i : Nat} (x : IsItX b h it a i) : ∃ o, h.get? it = some o ∧ ∀ v, o.data ≠ .cell v := by
  cases b
  · obtain ⟨o, e, c, d⟩ := x; exact ⟨o, e, fun v z => by rw [d] at z; cases z⟩
  · obtain ⟨o, e, c, d⟩ := x; exact ⟨o, e, fun v z => by rw [d] at z; cases z⟩
theorem itX_at {b : Bool} {h h' : Heap} {it a : Addr} {i : Nat} (x : IsItX b h it a i) (k : ∀ o, h.get? it = some o → h'.get? it = some o) : IsItX b h' it a i := by
  cases b
  · exact Heap.IsListIter.at x k
  · obtain ⟨o, e, r⟩ := x; exact ⟨o, k o e, r⟩
theorem beginsX (b : Bool) (a : Addr) (items : Array Value) : Begins (.ref a) (itObjX b a) fun h => IsSeqX b h a items := by
  cases b
  · exact begins_list a items
  · exact begins_tuple a items
theorem drawsX {prog : Program} {w : World} {A : Around} (b : Bool) (hh : A.handled = none) (it a : Addr) (hne : a ≠ it) (items : Array Value) :
    Draws prog w A it [it, a] items.size (fun i v => items[i]? = some v) (fun i h => IsItX b h it a i ∧ IsSeqX b h a items) := by
  cases b
  · exact Draws.list hh it a hne items
  · exact Draws.tuple hh it a hne items
theorem seqX {b : Bool} {X : Cx} {pins : List (Addr × Obj)} {σ : L2.St} {H : Hp} {s : Shared} {a : Addr} {xs : List V} (I : Inv X pins σ H s) (h : SqX b X.K H a xs) : ∃ its, Vals xs its ∧ IsSeqX b s.heap a its.toArray := by
  cases b
  · obtain ⟨its, rv, p, hz⟩ := I.list h
    exact ⟨its, rv, p.isList⟩
  · obtain ⟨its, rv, p, hz⟩ := I.tuple h
    exact ⟨its, rv, p⟩
theorem seqX_inj {b : Bool} {X : Cx} {pins : List (Addr × Obj)} {σ : L2.St} {H : Hp} {s : Shared} {a : Addr} {xs ys : List V} (I : Inv X pins σ H s) (h : SqX b X.K H a xs) (h' : SqX b X.K H a ys) : xs = ys := by
  cases b
  · exact I.list_inj h h'
  · exact I.tuple_inj h h'
theorem seqX_obj {b : Bool} {h : Heap} {a : Addr} {items : Array Value} (x : IsSeqX b h a items) : ∃ o, h.get? a = some o := by
  cases b
  · obtain ⟨o, e, _⟩ := x; exact ⟨o, e⟩
  · obtain ⟨o, e, _⟩ := x; exact ⟨o, e⟩

/-! ### enumerate(v) begins -/
theorem meets_enum_one {v : Value} {o : Obj} {H : Heap → Prop} (B : Begins v o H) :
    Meets (Builtin.«enumerate.__new__» ⟨[.type "enumerate", v], []⟩) (fun _ R s => H s.heap ∧
      R (.ok (.ret (.ref (s.heap.push o).objs.size))) { s with heap := (s.heap.push o).push (enumObj s.heap.objs.size 0 .none) }) :=
  .of_wp fun prog w A R s h => by
    obtain ⟨hp, g, d, tk, os⟩ := s
    obtain ⟨h1, h⟩ := h
    have hsub := sub_enumerate
    have q1 : ∀ {A' : Around} {E : Value → Shared → Prop} {Q : Value → Shared → Prop}, Q (.ref hp.objs.size) ⟨hp.push o, g, d, tk, os⟩ → wpAny (model prog w) A' (pyIter v) Q E ⟨hp, g, d, tk, os⟩ :=
      fun q => B.iter prog w _ _ ⟨hp, g, d, tk, os⟩ _ h1 q
    wp_walk using q1
    refine wpAny_stack_any fun st => wpAny_pure ?_
    split
    · rename_i c _ _ _ _ _
      cases (c == Value.type "enumerate")
      · wp_walk using q1
        exact ⟨_, rfl, h⟩
      · wp_walk using q1
        exact ⟨_, rfl, h⟩
    · wp_walk using q1
      exact ⟨_, rfl, h⟩
theorem call_enum_one {prog : Program} {w : World} {A : Around} {E : Value → Shared → Prop} {s : Shared} {v : Value} {o : Obj} {H : Heap → Prop} {Q : Value → Shared → Prop} (B : Begins v o H) (h1 : H s.heap)
    (h : ∀ h', IsEnum h' (s.heap.objs.size + 1) s.heap.objs.size 0 .none → h'.get? s.heap.objs.size = some o → h'.objs.size = s.heap.objs.size + 2 → (∀ b ob, s.heap.get? b = some ob → h'.get? b = some ob) → Q (.ref (s.heap.objs.size + 1)) { s with heap := h' }) :
    wpAny (model prog w) A (call (.type "enumerate") [v]) Q E s := by
  refine callType_new F.called_enumerate (by decide) (F.typeCall_enumerate_1 _) (F.newCall_enumerate_1 _) (fun obj => F.args_object_init_2 obj _) F.entry_enumerate_new
    (meets_enum_one B) ⟨h1, ?_⟩
  have hz : (s.heap.push o).objs.size = s.heap.objs.size + 1 := Heap.size_push ..
  have he : IsEnum ((s.heap.push o).push (enumObj s.heap.objs.size 0 .none)) (s.heap.objs.size + 1) s.heap.objs.size 0 .none := by
    have q := Heap.get?_push_size (s.heap.push o) (o := enumObj s.heap.objs.size 0 .none) rfl
    rw [hz] at q; exact q
  show _ ∧ _
  rw [hz]
  exact ⟨⟨_, he, rfl⟩, h _ he (Heap.get?_push_of_some _ (Heap.get?_push_size _ B.free)) (by rw [Heap.size_push, hz]) fun b ob x => Heap.get?_push_of_some _ (Heap.get?_push_of_some _ x)⟩

/-! ### the walk -/
def Iteq (b : Bool) (K : PySem.W.Frag) (a : Addr) : It :=
  ⟨fun i H => ∃ (xs : List V) (x : V), SqX b K H a xs ∧ xs[i]? = some x, fun i H v H' => ∃ T x, v = .ref T ∧ H T = none ∧ H' = upd H T (.tup [.int (i : Nat), x]) ∧ ∀ xs, SqX b K H a xs → xs[i]? = some x, fun i H => ∃ xs : List V, SqX b K H a xs ∧ xs.length ≤ i⟩
theorem turn_enumX {P : Program} {w : World} {K : PySem.W.Frag} {elts : List Expr} {kk : Nat} {tpos : Pos} (b : Bool) (a e it : Addr) :
    Turn P w K (.Tuple elts kk tpos) (Iteq b K a) [e, it] e (fun i h => (∃ old, IsEnum h e it ((i : Nat) : Int) old) ∧ IsItX b h it a i ∧ e ≠ it ∧ a ≠ it ∧ a ≠ e) where
  mem := by simp
  obj := fun i h st bb hb => by
    obtain ⟨⟨old, he⟩, hi, _⟩ := st
    have e' : bb = e ∨ bb = it := by simpa using hb
    rcases e' with z | z
    · rw [z]; exact ⟨_, he, fun v q => nomatch q⟩
    · rw [z]; exact itX_obj hi
  keep := fun i h h' st k => let ⟨⟨old, he⟩, hi, hne⟩ := st; ⟨⟨old, k e (by simp) _ he⟩, itX_at hi fun o q => k it (by simp) o q, hne⟩
  item := by
    intro X hP hw hK hc i pins s σ H E I hf st hg
    subst hP hw hK
    obtain ⟨⟨old, he⟩, hit, hne, hai, hae⟩ := st
    obtain ⟨xs, x, hq, hx⟩ := hg
    obtain ⟨its, rv, p⟩ := seqX I hq
    obtain ⟨u, hu, ru⟩ := rv.get hx
    have hel : e < s.heap.objs.size := Heap.lt_size he
    have hil : it < s.heap.objs.size := by obtain ⟨_, q, _⟩ := itX_obj hit; exact Heap.lt_size q
    have hlt : i < its.toArray.size := by
      have := (List.getElem?_eq_some_iff.mp hu).1
      simpa using this
    refine wpAny_pyNext_enum_itemC (drawsX (A := X.A.in1) b (I.ok.hd hc) it a hai its.toArray) he ⟨hit, p⟩ hlt hne (by simp [hne, Ne.symm hae]) fun x' h' tk hx' ho hit' hT hsz hk => ?_
    have ex : x' = u := by
      have h1 : its.toArray[i]? = some u := by simpa using hu
      exact Option.some.inj (hx'.symm.trans h1)
    subst ex
    refine ⟨_, rfl, wpAny_letOwnedTupleGo_enum (s := { s with heap := h', toks := tk + 1 }) ho fun h'' he' sb => ?_⟩
    have hT2 : h''.get? s.heap.objs.size = some { cls := .type "tuple", data := .seq #[.int i tk, x'] } := (sb.2 _ (Nat.ne_of_gt hel)).trans hT
    have new : ObjOk X.prog X.w (upd H s.heap.objs.size (.tup [.int (i : Nat), x])) h'' s.heap.objs.size (.tup [.int (i : Nat), x]) :=
      ⟨by show 2 ≤ sizeLine; decide, [.int i tk, x'], .cons ⟨_, rfl⟩ (.cons ru .nil), ⟨_, hT2, rfl, _, rfl⟩⟩
    have I1 : Inv X pins σ (upd H s.heap.objs.size (.tup [.int (i : Nat), x])) { s with heap := h'', toks := tk + 1 } :=
      I.turnedNew (ch := [e, it]) (fun b ob hb q => (sb.2 b (fun z => hb (by simp [z]))).trans (hk b ob (fun z => hb (by simp [z])) (fun z => hb (by simp [z])) q)) hf (Nat.le_refl _) new
    refine ⟨.ref s.heap.objs.size, _, I1, rfl, ⟨_, x, rfl, I.hok.fresh (Nat.le_refl _), rfl, fun ys hy => by rw [seqX_inj I hy hq]; exact hx⟩, ⟨⟨x', ?_⟩, itX_at hit'.1 fun o q => (sb.2 it (Ne.symm hne)).trans q, hne, hai, hae⟩, fun b hb => ?_⟩
    · have e1 : ((i + 1 : Nat) : Int) = (i : Int) + 1 := by omega
      rw [e1]; exact he'
    · have hb' : b < s.heap.objs.size := by
        have e' : b = e ∨ b = it := by simpa using hb
        rcases e' with z | z
        · rw [z]; exact hel
        · rw [z]; exact hil
      rw [upd_ne (Nat.ne_of_lt hb')]
      exact (hf b hb).1
  done := by
    intro X hP hw hK hc i pins s σ H E I hf st hg
    subst hP hw hK
    obtain ⟨⟨old, he⟩, hit, hne, hai, hae⟩ := st
    obtain ⟨xs, hq, hx⟩ := hg
    obtain ⟨its, rv, p⟩ := seqX I hq
    obtain ⟨f0, f1, f2, f3, f4, f5⟩ := hf it (by simp)
    have hl := rv.length
    have fin : ∀ h' : Heap, Heap.ExtBut it s.heap h' → Inv X pins σ H { s with heap := h' } := fun h' eb => I.turned (t' := s.toks) (fun b o hb q => eb b o hb q) f0 f1 f3 f4 f5
    have hnone : its.toArray[i]? = none := by simp; omega
    cases b
    · exact wpAny_pyNext_enum_end (I.ok.hd hc) he hit p hnone fun h' eb => ⟨rfl, fin h' eb⟩
    · exact pyNext_enum_some he (wpAny_nextOf_tuple_end (I.ok.hd hc) hit p hnone fun h' ex eb ⟨o, ho, hco⟩ => ⟨ex, o, rfl, ho, hco, rfl, fin h' eb⟩)
  self := fun A i s Q E st h => let ⟨⟨_, he⟩, _⟩ := st; wpAny_pyIter_enum he h
def iEnumX (b : Bool) (K : PySem.W.Frag) (ta : TA) : TI := fun σ H R => ta σ H fun vs H1 => ∃ a xs, vs = [.ref a] ∧ SqX b K H1 a xs ∧ R (Iteq b K a) H1
theorem pi_enumX {X : Cx} {e : Expr} {ta : TA} {p pos tpos : Pos} {elts : List Expr} {kk : Nat} (b : Bool) (hg : Gl X "enumerate") (hm : X.mg "enumerate" = none) (ha : PA X [e] ta) (hs : starEach [e] X.env = [(false, eval e X.env)] := by rfl) :
    PI X (.Tuple elts kk tpos) (.Call (.Name "enumerate" p) [e] [] pos) (iEnumX b X.K ta) := by
  refine ⟨fun pins s σ H R I h => ?_⟩
  refine Call_ (ld_blt I hg hm boot_enumerate (PyProof.Rows.callWith_type1 (thn (ha.run pos pins s σ H _ I h) fun us s1 ⟨vs, H1, I1, r1, q1⟩ => ?_) hs rfl))
  obtain ⟨a, xs, ex, hq, q⟩ := q1
  subst ex
  cases r1 with
  | cons r rr =>
    cases rr
    cases r
    obtain ⟨its, rv, p'⟩ := seqX I1 hq
    refine call_enum_one (beginsX b a its.toArray) p' fun h' he hit hsz hk => wpAny_pyIter_enum he ?_
    have I2 : Inv X pins σ H1 { s1 with heap := h' } := I1.kept (t' := s1.toks) hk
    have hal : a < s1.heap.objs.size := by obtain ⟨o, eo⟩ := seqX_obj p'; exact Heap.lt_size eo
    refine ⟨s1.heap.objs.size + 1, [s1.heap.objs.size + 1, s1.heap.objs.size], _, _, H1, rfl, I2, turn_enumX b a (s1.heap.objs.size + 1) s1.heap.objs.size,
      ⟨⟨.none, he⟩, itX_new hit, Nat.succ_ne_self _, Nat.ne_of_lt hal, Nat.ne_of_lt (Nat.lt_succ_of_lt hal)⟩, fun bb hb => ?_, q⟩
    have e' : bb = s1.heap.objs.size + 1 ∨ bb = s1.heap.objs.size := by simpa using hb
    have hle : s1.heap.objs.size ≤ bb := by
      rcases e' with z | z
      · rw [z]; exact Nat.le_add_right _ _
      · rw [z]; exact Nat.le_refl _
    exact I1.fpOk hle (I1.hok.fresh hle)
end Gx

/-! Gx5: what a generator's frame sees when it is woken: all that is not its own is locked. -/
namespace Gx
open PySem PySem.Spec PyProof.Rows L2

/-! ### the heap's first objects -/
def cut (h : Heap) (L : Nat) : Heap := ⟨h.objs.take L, h.life⟩
theorem cut_lt {h : Heap} {L b : Nat} (hb : b < L) : (cut h L).get? b = h.get? b := by
  have e : (cut h L).objs[b]? = h.objs[b]? := by
    show (h.objs.extract 0 L)[b]? = h.objs[b]?
    rw [Array.getElem?_extract]
    by_cases z : b < h.objs.size
    · rw [if_pos (by omega), Nat.zero_add]
    · rw [if_neg (by omega)]
      exact (Array.getElem?_eq_none (by omega)).symm
  unfold Heap.get?
  rw [e]
theorem cut_get {h : Heap} {L b : Nat} {o : Obj} (q : (cut h L).get? b = some o) : b < L ∧ h.get? b = some o := by
  by_cases hb : b < L
  · rw [cut_lt hb] at q; exact ⟨hb, q⟩
  · have e : (cut h L).objs[b]? = none := by
      show (h.objs.extract 0 L)[b]? = none
      rw [Array.getElem?_extract, if_neg (by omega)]
    unfold Heap.get? at q
    rw [e] at q
    cases q
theorem cut_size {h : Heap} {L : Nat} (hL : L ≤ h.objs.size) : (cut h L).objs.size = L := by
  show (h.objs.take L).size = L
  simp; omega
theorem frames_cut {h base : Heap} {L : Nat} : ∀ {l : List Env}, h.FunFrames base l → (∀ b ∈ frs l, b < L) → (cut h L).FunFrames base l
  | [], _, _ => trivial
  | env :: r, hl, hb => by
    obtain ⟨hk, ⟨La, o, hf, hn, ho, hd⟩, hr⟩ := hl
    have hm : La ∈ frs (env :: r) := by
      unfold frs
      rw [List.filterMap_cons, hf]
      exact List.mem_cons_self
    refine ⟨hk, ⟨La, o, hf, hn, (cut_lt (hb La hm)).trans ho, hd⟩, frames_cut hr fun b hbm => hb b ?_⟩
    unfold frs
    rw [List.filterMap_cons, hf]
    exact List.mem_cons_of_mem _ hbm
theorem no_cells : ∀ (ns : List (Str × NameKind)) (k : Nat) (acc : List (Str × Addr)), (∀ y ∈ ns, y.2 ≠ .cell) → PySem.cellsFrom k ns acc = acc
  | [], _, _, _ => rfl
  | (n, kd) :: r, k, acc, h => by
    have hk : kd ≠ .cell := h (n, kd) List.mem_cons_self
    have hb : (kd == NameKind.cell) = false := by cases kd <;> first | rfl | exact absurd rfl hk
    show (if (kd == NameKind.cell) = true then _ else _) = acc
    rw [hb, if_neg Bool.false_ne_true]
    exact no_cells r k acc fun y hy => h y (List.mem_cons_of_mem _ hy)

/-! ### everything but its own locked -/
def froz (H : Hp) (h : Heap) (own : List Addr) (L ca : Nat) (oc : Obj) (u : HO) : Hp := fun b =>
  if b = ca then some (.frz oc u) else if b ∈ own then none else if (H b).isSome = true ∨ L ≤ b then (h.get? b).map (fun o => .frz o (.own 0)) else none
section
variable {H : Hp} {h : Heap} {own : List Addr} {L ca : Nat} {oc : Obj} {u : HO}
theorem froz_ca : froz H h own L ca oc u ca = some (.frz oc u) := by unfold froz; rw [if_pos rfl]
theorem froz_own {b : Addr} (h1 : b ≠ ca) (h2 : b ∈ own) : froz H h own L ca oc u b = none := by unfold froz; rw [if_neg h1, if_pos h2]
theorem froz_low {b : Addr} (h1 : b ≠ ca) (h2 : H b = none) (h3 : b < L) : froz H h own L ca oc u b = none := by
  unfold froz
  rw [if_neg h1]
  split
  · rfl
  · rw [if_neg]
    rintro (z | z)
    · rw [h2] at z; cases z
    · exact absurd (Nat.lt_of_lt_of_le h3 z) (Nat.lt_irrefl _)
theorem froz_frz {b : Addr} {o : Obj} (h1 : b ≠ ca) (h2 : b ∉ own) (h3 : (H b).isSome = true ∨ L ≤ b) (e : h.get? b = some o) : froz H h own L ca oc u b = some (.frz o (.own 0)) := by
  unfold froz
  rw [if_neg h1, if_neg h2, if_pos h3, e]
  rfl
theorem froz_ok {P : Program} {w : World} (hca : h.get? ca = some oc) (hu : ∀ H', ObjOk P w H' h ca u) : HOk P w (froz H h own L ca oc u) h := fun b o e => by
  unfold froz at e
  split at e
  · rename_i z
    cases e
    rw [z]
    exact ⟨hca, hu _⟩
  · split at e
    · cases e
    · split at e
      · cases q : h.get? b with
        | none => rw [q] at e; cases e
        | some ob =>
          rw [q] at e
          cases e
          exact ⟨q, ob, q⟩
      · cases e
end

/-! ### the generator's context -/
abbrev Gc (X : Cx) (N : List Str) (qual : Str) (scope : Scope) (f : Addr) (cd : Value) (A : Around) (s0 : Shared) (H0 : Hp) : Cx :=
  (cxOf CX0 X.prog X.w X.K X.mg X.base N qual scope f cd A X.stack s0 H0 E0).nox
/-- a generator's names: all its own -/
structure GNames (N : List Str) (sc : Scope) : Prop where
  kind : sc.kind = .function
  nd : N.Nodup
  loc : ∀ x ∈ N, sc.names.lookup x = some .local
  nc : ∀ y ∈ sc.names, y.2 ≠ .cell
  nf : ∀ y ∈ sc.names, y.2 ≠ .free
/-- its locals at L -/
def LocAt (h : Heap) (L : Addr) (N : List Str) (σ : L2.St) : Prop := ∃ m, h.Ns L m ∧ ∀ (i : Nat) (x : Str) (v : V), N[i]? = some x → σ[i]? = some (some v) → ∃ u, RelV v u ∧ m x = some u
theorem LocAt.keeps {h h' : Heap} {L : Addr} {N : List Str} {σ : L2.St} (x : LocAt h L N σ) (k : ∀ o, h.get? L = some o → h'.get? L = some o) : LocAt h' L N σ := let ⟨m, hn, r⟩ := x; ⟨m, hn.at' k, r⟩
/-- a state as the generator is woken, or amid its run: the consumer's invariant, the list or tuple stands, the generator's own objects are nobody's -/
def Ready (X : Cx) (own : List Addr) (b : Bool) (ca : Addr) (xs : List V) (s : Shared) : Prop :=
  ∃ pins σ H, Inv X pins σ H s ∧ (∃ u, H ca = some u) ∧ SqX b X.K H ca xs ∧ ∀ bb ∈ own, H bb = none

section
variable {X : Cx} {N : List Str} {qual : Str} {scope : Scope} {f : Addr} {cd : Value} {A : Around} {L ca : Nat} {own : List Addr} {b : Bool} {xs : List V}
theorem sqX_obj {H : Hp} {P : Program} {w : World} {h : Heap} {o : Obj} (hok : HOk P w H h) (hq : SqX b X.K H ca xs) (hH : ∃ u, H ca = some u) (e : h.get? ca = some o)
    (hw : ∀ o, X.K.lookup ca = some o → H ca = none) : ∃ u, (∀ H', ObjOk P w H' h ca u) ∧ ∀ (H' : Hp) o', H' ca = some (.frz o' u) → SqX b X.K H' ca xs := by
  obtain ⟨u0, hu0⟩ := hH
  cases b
  · rcases hq with hq | ⟨o1, _, _, hl, _⟩
    · have q : ObjOk P w H h ca (.lst xs) := hq.ok hok
      exact ⟨.lst xs, fun H' => q, fun H' o' z => .inl (.inr ⟨o', z⟩)⟩
    · rw [hw o1 hl] at hu0; cases hu0
  · rcases hq with hq | ⟨o1, _, _, hl, _⟩
    · have q : ObjOk P w H h ca (.tup xs) := hq.ok hok
      exact ⟨.tup xs, fun H' => q, fun H' o' z => .inl (.inr ⟨o', z⟩)⟩
    · rw [hw o1 hl] at hu0; cases hu0

/-- THE CONTEXT AT A WAKING -/
theorem inv_gen {pins : List (Addr × Obj)} {σ σg : L2.St} {H : Hp} {s : Shared} {oc : Obj} {u : HO} (I : Inv X pins σ H s) (S : GNames N scope) (hhd : A.handled = none) (hfr : A.frames = some X.stack)
    (hL : L ≤ s.heap.objs.size) (hX : X.s_0.heap.objs.size ≤ L) (hfs : ∀ bb ∈ frs X.stack, bb < L) (hLo : L ∈ own) (hLH : H L = none) (hcL : ca ≠ L)
    (hca : s.heap.get? ca = some oc) (hcH : ∃ v, H ca = some v) (hu : ∀ H', ObjOk X.prog X.w H' s.heap ca u) (hm : LocAt s.heap L N σg) (hlen : σg.length = N.length) :
    Inv (Gc X N qual scope f cd A { s with heap := cut s.heap L } (froz H s.heap own L ca oc u)) [] σg (froz H s.heap own L ca oc u) s := by
  have hz : (cut s.heap L).objs.size = L := cut_size hL
  have envL : (Gc X N qual scope f cd A { s with heap := cut s.heap L } (froz H s.heap own L ca oc u)).env.locals = L := hz
  have noc : ∀ x, (Gc X N qual scope f cd A { s with heap := cut s.heap L } (froz H s.heap own L ca oc u)).env.cells.lookup x = none := fun x => by
    show (PySem.cellsFrom _ scope.names []).lookup x = none
    rw [no_cells _ _ _ S.nc]
    rfl
  have ncell : ∀ x c, (Gc X N qual scope f cd A { s with heap := cut s.heap L } (froz H s.heap own L ca oc u)).env.cells.lookup x = some c → False := fun x c e => by
    rw [noc x] at e; cases e
  have cne : ∀ bb, H bb = none → bb ≠ ca := fun bb n z => by
    obtain ⟨v, hv⟩ := hcH
    rw [z, hv] at n; cases n
  have low : ∀ bb, H bb = none → bb < L → froz H s.heap own L ca oc u bb = none := fun bb n l => froz_low (cne bb n) n l
  have baseL : X.base.objs.size ≤ L := Nat.le_trans I.ok.bsz hX
  refine ⟨⟨I.ok.mod, S.kind, rfl, rfl, ?_, fun x y c h1 _ => (ncell x c h1).elim, fun x hx => ?_, fun x c _ h1 => (ncell x c h1).elim, fun _ => hhd, Around.frames_deeper hfr, .inr ⟨rfl, rfl⟩, fun bb z => absurd z (by simp [Cx.wish, cxOf]), fun bb o e => ?_, ?_, fun bb o _ z => absurd z (by simp [Cx.wish, cxOf]), fun bb z => absurd z (by simp [Cx.wish, cxOf]), ?_, fun bb hb => ?_⟩,
    rfl, I.bare, Un.kept fun bb o e => (cut_get e).2, ?_, fun x c h1 => (ncell x c h1).elim, ?_, fun x c h1 => (ncell x c h1).elim, fun p hp => absurd hp (by simp [Cx.wish, cxOf]), froz_ok hca hu, hlen⟩
  · exact Nat.le_refl _
  · have hx : scope.names.lookup x = some .cell ∨ scope.names.lookup x = some .free := hx
    rcases hx with hx | hx
    · exact absurd rfl (S.nc _ (PySem.mem_of_lookup hx))
    · exact absurd rfl (S.nf _ (PySem.mem_of_lookup hx))
  · obtain ⟨h1, h2⟩ := I.bs bb o e
    have hb : bb < L := Nat.lt_of_lt_of_le (Heap.lt_size e) baseL
    exact ⟨(cut_lt hb).trans h1, low bb h2 hb⟩
  · show X.base.objs.size ≤ (cut s.heap L).objs.size
    rw [hz]; exact baseL
  · exact frames_cut I.stack hfs
  · exact low bb (I.stkFree bb hb) (hfs bb hb)
  · obtain ⟨m, hn, r⟩ := hm
    refine ⟨m, ?_, fun i x v h1 h2 h3 => ?_⟩
    · show s.heap.Ns (cut s.heap L).objs.size m
      rw [hz]; exact hn
    · obtain ⟨u', ru, hu'⟩ := r i x v h1 h2
      exact ⟨u', ru, .inl ⟨S.loc x (List.mem_of_getElem? h1), hu'⟩⟩
  · show froz H s.heap own L ca oc u (cut s.heap L).objs.size = none
    rw [hz]; exact froz_own (fun z => hcL z.symm) hLo

/-! ### what a run of the generator leaves as it was -/
structure Step (X : Cx) (own : List Addr) (s₀ s₁ : Shared) : Prop where
  os : s₁.os = s₀.os
  bare : AllBare s₁.gens
  keep : ∀ bb o, bb ∉ own → bb ∉ frs X.stack → s₀.heap.get? bb = some o → s₁.heap.get? bb = some o
  slot : ∀ bb o, bb ∈ frs X.stack → s₀.heap.get? bb = some o → ∃ sl, s₁.heap.get? bb = some { o with slots := sl }
theorem Step.refl {s : Shared} (h : AllBare s.gens) : Step X own s s := ⟨rfl, h, fun _ _ _ _ e => e, fun _ o _ e => ⟨o.slots, e⟩⟩
theorem Step.trans {s₀ s₁ s₂ : Shared} (a : Step X own s₀ s₁) (c : Step X own s₁ s₂) : Step X own s₀ s₂ :=
  ⟨c.os.trans a.os, c.bare, fun bb o h1 h2 e => c.keep bb o h1 h2 (a.keep bb o h1 h2 e), fun bb o h1 e => by
    obtain ⟨sl, e1⟩ := a.slot bb o h1 e
    obtain ⟨sl', e2⟩ := c.slot bb _ h1 e1
    exact ⟨sl', e2⟩⟩
theorem step_of {pins : List (Addr × Obj)} {σ σ' : L2.St} {H H' : Hp} {s s' : Shared} {oc : Obj} {u : HO} {pg : List (Addr × Obj)} (I : Inv X pins σ H s) (hfs : ∀ bb ∈ frs X.stack, bb < L) (hoL : ∀ bb ∈ own, L ≤ bb) (hcH : ∃ v, H ca = some v) (hca : s.heap.get? ca = some oc) (hco : ca ∉ own)
    (J : Inv (Gc X N qual scope f cd A { s with heap := cut s.heap L } (froz H s.heap own L ca oc u)) pg σ' H' s') : Step X own s s' := by
  have cne : ∀ bb, H bb = none → bb ≠ ca := fun bb n z => by
    obtain ⟨v, hv⟩ := hcH
    rw [z, hv] at n; cases n
  refine ⟨J.os, J.bare, fun bb o h1 h2 e => ?_, fun bb o h1 e => ?_⟩
  · by_cases hc : bb = ca
    · subst hc
      have q := J.base.frzs bb oc u froz_ca
      obtain ⟨q2, _⟩ := J.hok bb _ q
      rw [hca] at e; cases e
      exact q2
    · by_cases hh : (H bb).isSome = true ∨ L ≤ bb
      · have q := J.base.frzs bb o (.own 0) (froz_frz hc h1 hh e)
        exact (J.hok bb _ q).1
      · have hlt : bb < L := by
          cases Nat.lt_or_ge bb L with
          | inl z => exact z
          | inr z => exact (hh (.inr z)).elim
        have hn : H bb = none := by
          cases z : H bb with
          | none => rfl
          | some v => exact (hh (.inl (by rw [z]; rfl))).elim
        exact J.base.keep bb o ((cut_lt hlt).trans e) (froz_low hc hn hlt) h2 (by simp [Cx.wish, cxOf])
  · have hlt := hfs bb h1
    have hn : H bb = none := I.stkFree bb h1
    exact J.base.slot bb o ((cut_lt hlt).trans e) (froz_low (cne bb hn) hn hlt) h1 (by simp [Cx.wish, cxOf])
/-- what it tracks besides is new -/
theorem new_of {pins : List (Addr × Obj)} {σ σ' : L2.St} {H H' : Hp} {s s' : Shared} {oc : Obj} {u uo : HO} {pg : List (Addr × Obj)} {D : Addr} (I : Inv X pins σ H s) (hcH : ∃ v, H ca = some v) (hD : froz H s.heap own L ca oc u D = none) (hDo : D ∉ own)
    (J : Inv (Gc X N qual scope f cd A { s with heap := cut s.heap L } (froz H s.heap own L ca oc u)) pg σ' H' s') (e : H' D = some uo) : s.heap.get? D = none := by
  cases q : s.heap.get? D with
  | none => rfl
  | some o =>
    exfalso
    have hc : D ≠ ca := fun z => by rw [z, froz_ca] at hD; cases hD
    by_cases hh : (H D).isSome = true ∨ L ≤ D
    · rw [froz_frz hc hDo hh q] at hD; cases hD
    · have hlt : D < L := by
        cases Nat.lt_or_ge D L with
        | inl z => exact z
        | inr z => exact (hh (.inr z)).elim
      have z := J.base.free D o ((cut_lt hlt).trans q) hD (by simp [Cx.wish, cxOf])
      rw [z] at e; cases e
end

theorem ok_there {P : Program} {w : World} {H : Hp} {h : Heap} {a : Addr} {o : HO} (x : ObjOk P w H h a o) : ∃ ob, h.get? a = some ob := by
  cases o with
  | lst xs => obtain ⟨_, _, _, _, e⟩ := x; exact ⟨_, e⟩
  | tup xs => obtain ⟨_, _, _, ob, e, _⟩ := x; exact ⟨_, e⟩
  | dK kvs => obtain ⟨_, _, _, _, o, _, _, e, _⟩ := x; exact ⟨_, e⟩
  | dT kvs => obtain ⟨_, _, _, _, o, _, _, e, _⟩ := x; exact ⟨_, e⟩
  | set S n => obtain ⟨o, _, _, _, e, _⟩ := x; exact ⟨_, e⟩
  | ins C dx fs => obtain ⟨_, _, _, e, _⟩ := x; exact ⟨_, e⟩
  | own y => exact x
  | xd fs => obtain ⟨_, ⟨_, _, _, e, _⟩, _⟩ := x; exact ⟨_, e⟩
  | rng lo hi => obtain ⟨_, _, _, e⟩ := x; exact ⟨_, e⟩
  | frz ob u => exact ⟨_, x.1⟩
  | tbl ps => exact ⟨_, (show h.get? a = some _ from x)⟩
  | met f y => exact ⟨_, (show h.get? a = some _ from x)⟩
  | ext φ => obtain ⟨_, e, _⟩ := x; exact e
/-- the consumer's invariant behind such a run -/
theorem inv_step {X : Cx} {pins : List (Addr × Obj)} {σ : L2.St} {H : Hp} {own : List Addr} {s s' : Shared} {D : Addr} {out : List V} {its : List Value} (I : Inv X pins σ H s) (S : Step X own s s') (hown : ∀ bb ∈ own, s.heap.get? bb = none ∨ FpOk X pins H bb) (hownH : ∀ bb ∈ own, H bb = none)
    (hL : ∀ bb ∈ own, X.s_0.heap.objs.size ≤ bb ∧ bb ≠ X.env.locals ∧ (∀ x c, X.env.cells.lookup x = some c → c ≠ bb))
    (hD : s.heap.get? D = none) (hlen : out.length ≤ sizeLine) (rv : Vals out its) (ht : IsTup s'.heap D its.toArray) : H D = none ∧ Inv X pins σ (upd H D (.tup out)) s' := by
  have hDn : H D = none := by
    cases q : H D with
    | none => rfl
    | some u => obtain ⟨ob, e⟩ := ok_there (I.hok D u q); rw [hD] at e; cases e
  have tr : ∀ bb u, H bb = some u → bb ∉ own := fun bb u e z => by rw [hownH bb z] at e; cases e
  have trf : ∀ bb u, H bb = some u → bb ∉ frs X.stack := fun bb u e z => by rw [I.stkFree bb z] at e; cases e
  refine ⟨hDn, I.call' (ch := own) S.os ⟨fun bb o e n h1 h2 => S.keep bb o h2 h1 e, fun bb o e n h1 h2 => S.slot bb o h1 e, fun bb o e n h2 => ?_, fun bb o e h2 => ?_, fun bb ys e => ?_, fun bb o y e => ?_, fun bb ps e => ⟨#[], ?_⟩⟩ (fun bb u e => ?_) S.bare fun bb hb => ?_⟩
  · rw [upd_ne (fun z => by rw [z, hD] at e; cases e)]; exact n
  · by_cases hf : bb ∈ frs X.stack
    · obtain ⟨sl, e'⟩ := S.slot bb o hf e; exact ⟨_, e'⟩
    · exact ⟨o, S.keep bb o h2 hf e⟩
  · rw [upd_ne (ne_of_none e hDn)]; exact e
  · rw [upd_ne (ne_of_none e hDn)]; exact e
  · rw [upd_ne (ne_of_none e hDn), e]; simp
  · by_cases hb : bb = D
    · subst hb
      rw [upd_same] at e
      cases e
      exact ⟨hlen, its, rv, ht⟩
    · rw [upd_ne hb] at e
      refine (I.hok bb u e).stay (fun c v hc q => ?_) (fun c q => by rw [upd_ne (ne_of_none q hDn)]; exact q) fun c ys q => by rw [upd_ne (ne_of_none q hDn)]; exact q
      rcases hc with hc | hc
      · rw [hc] at q ⊢; exact S.keep bb v (tr bb u e) (trf bb u e) q
      · exact S.keep c v (tr c _ hc) (trf c _ hc) q
  · refine ⟨.inr (hL bb hb).1, (hL bb hb).2.1, (hL bb hb).2.2, fun p hp z => ?_⟩
    rcases hown bb hb with q | q
    · have := (I.pin p hp).1
      rw [z, q] at this; cases this
    · exact q.2.2.2.2.2 p hp z
end Gx

/-! Gx6: a generator of one loop over enumerate(..), woken by a consumer that does as it likes meanwhile. -/
namespace Gx
open PySem PySem.Spec PyProof.Rows L2 GenW

def Later (X : Cx) (own : List Addr) (b : Bool) (ca : Addr) (xs : List V) (s₁ s₂ : Shared) : Prop :=
  (∀ bb ∈ own, ∀ o, s₁.heap.get? bb = some o → s₂.heap.get? bb = some o) ∧ Ready X own b ca xs s₂
/-- what is handed out: a new tuple -/
def GP (X : Cx) (own : List Addr) (b : Bool) (ca : Addr) (xs : List V) (NN : Nat) (out : Nat → List V) : Protocol := fun n s₀ v s₁ kap =>
  Step X own s₀ s₁ ∧ (∃ D its, v = .ref D ∧ s₀.heap.get? D = none ∧ D ∉ own ∧ (out (NN - 1 - n)).length ≤ sizeLine ∧ Vals (out (NN - 1 - n)) its ∧ IsTup s₁.heap D its.toArray) ∧
    (∀ bb ∈ own, ∃ o, s₁.heap.get? bb = some o ∧ ∀ v, o.data ≠ .cell v) ∧ ∀ s₂, Later X own b ca xs s₁ s₂ → kap (.send .none) s₂
def GF (X : Cx) (own : List Addr) : Nat → Shared → Shared → Prop := fun n s₀ s₁ => n = 0 ∧ Step X own s₀ s₁
abbrev GE (X : Cx) (own : List Addr) : GenEnd := fun n s₀ r s₁ => (r = .ok (.ret .none) ∨ r = .ok .next) ∧ GF X own n s₀ s₁

/-- the generator's text: one loop, one yield -/
structure GText (X : Cx) (N : List Str) (qual : Str) (scope : Scope) (f : Addr) (cd : Value) (b : Bool) (ca : Addr) (xs : List V) (out : Nat → List V) (elts : List Expr) (kk : Nat) (tpos : Pos) (eY : Expr) : Prop where
  S : GNames N scope
  co : scope.isCoroutine = false
  three : N.length = 3
  ni : ∀ {L : Addr}, interactive (envOfC qual scope L f cd) = false
  step : ∀ (A : Around) (s0 : Shared) (H0 : Hp), ∃ (gG : TG) (te : TE), PG (Gc X N qual scope f cd A s0 H0) (.Tuple elts kk tpos) gG ∧ PE (Gc X N qual scope f cd A s0 H0) eY te ∧
    ∀ (i : Nat) (x : V) (T : Addr) (a1 a2 : Option V) (H : Hp), xs[i]? = some x → H T = none → SqX b X.K H ca xs → gG (.ref T) [some (.ref ca), a1, a2] (upd H T (.tup [.int (i : Nat), x])) fun σ2 H2 =>
      (∃ b1 b2, σ2 = [some (.ref ca), b1, b2]) ∧ te σ2 H2 fun y H3 => ∃ D, y = .ref D ∧ (upd H T (.tup [.int (i : Nat), x])) D = none ∧ H3 D = some (.tup (out i)) ∧ (∀ bb, H bb = none → bb ≠ T → bb ≠ D → H3 bb = none) ∧ (out i).length ≤ sizeLine

section
variable {X : Cx} {N : List Str} {qual : Str} {scope : Scope} {f : Addr} {cd : Value} {A : Around} {L ca e2 it2 : Nat} {b : Bool} {xs : List V} {out : Nat → List V} {elts : List Expr} {kk : Nat} {tpos ypos fpos : Pos} {eY : Expr} {body : List Stmt} {p0 : Pos}
abbrev yst (eY : Expr) (yp yq : Pos) : List Stmt := [.Expr (.Yield (some eY) yp) yq]
/-- behind the body of a def -/
abbrev retK (f : Flow) : Sem PySem.Fin := .pure (.done (.ret (match f with | .ret v => v | _ => .none)))
abbrev retH (env : Env) (e : Value) : Sem PySem.Fin := (leaving env e).wrap (fun _ => .raise e) .raise id id
abbrev lastK (env : Env) (f : Flow) : Sem PySem.Fin := match f with
  | .next => (execs [] env).wrap retK (retH env) id id
  | f => retK f
theorem gen_loop (T : GText X N qual scope f cd b ca xs out elts kk tpos eY) (hhd : A.handled = none) (hfr : A.frames = some X.stack) (hX : X.s_0.heap.objs.size ≤ L) (hfs : ∀ bb ∈ frs X.stack, bb < L)
    (hoL : ∀ bb ∈ [L, e2, it2], L ≤ bb) (hco : ca ∉ [L, e2, it2]) (hLe : e2 ≠ L) (hLi : it2 ≠ L) (hei : e2 ≠ it2) {yp yq : Pos} :
    ∀ (r i : Nat) (s₀ s : Shared) (a1 a2 : Option V), i + r = xs.length → Ready X [L, e2, it2] b ca xs s → Step X [L, e2, it2] s₀ s → L < s.heap.objs.size → LocAt s.heap L N [some (.ref ca), a1, a2] →
      (∃ old, IsEnum s.heap e2 it2 ((i : Nat) : Int) old) → IsItX b s.heap it2 ca i →
      Seg (model X.prog X.w) A (GE X [L, e2, it2]) (GP X [L, e2, it2] b ca xs xs.length out) r s₀ (.forLoop (.Tuple elts kk tpos) (.ref e2) (yst eY yp yq) [] (envOfC qual scope L f cd))
        ((model X.prog X.w).den (.forLoop (.Tuple elts kk tpos) (.ref e2) (yst eY yp yq) [] (envOfC qual scope L f cd)))
        [behindLoop (envOfC qual scope L f cd) (lastK (envOfC qual scope L f cd)) (retH (envOfC qual scope L f cd)) id id (.func body (envOfC qual scope L f cd)) p0] s := by
  have hca2 : ca ≠ e2 := fun z => hco (by simp [z])
  have hca3 : ca ≠ it2 := fun z => hco (by simp [z])
  have hcaL : ca ≠ L := fun z => hco (by simp [z])
  have eAr : A.over (.forLoop (.Tuple elts kk tpos) (.ref e2) (yst eY yp yq) [] (envOfC qual scope L f cd)) [behindLoop (envOfC qual scope L f cd) (lastK (envOfC qual scope L f cd)) (retH (envOfC qual scope L f cd)) id id (.func body (envOfC qual scope L f cd)) p0] = A.deeper (envOfC qual scope L f cd) :=
    (over_loop rfl rfl).trans over_func
  have TU := turn_enumX (P := X.prog) (w := X.w) (K := X.K) (elts := elts) (kk := kk) (tpos := tpos) b ca e2 it2
  intro r
  induction r with
  | zero =>
    intro i s₀ s a1 a2 hi hR hS hLs hloc hen hit
    obtain ⟨pins, σ, H, I, hcH, hq, hoH⟩ := hR
    obtain ⟨v0, hv0⟩ := hcH
    obtain ⟨oc, hoc⟩ := ok_there (I.hok ca v0 hv0)
    obtain ⟨u, hu, hu2⟩ := sqX_obj I.hok hq ⟨v0, hv0⟩ hoc fun o hl => (I.bs ca o (I.ok.mod.kin _ _ hl)).2
    have hz : (cut s.heap L).objs.size = L := cut_size (Nat.le_of_lt hLs)
    have J := inv_gen (qual := qual) (f := f) (cd := cd) (own := [L, e2, it2]) I T.S hhd hfr (Nat.le_of_lt hLs) hX hfs List.mem_cons_self (hoH L List.mem_cons_self) hcaL hoc ⟨v0, hv0⟩ hu hloc (by rw [T.three]; rfl)
    have eE : (Gc X N qual scope f cd A { s with heap := cut s.heap L } (froz H s.heap [L, e2, it2] L ca oc u)).env = envOfC qual scope L f cd := by
      show envOfC qual scope (cut s.heap L).objs.size f cd = _
      rw [hz]
    have eA : (Gc X N qual scope f cd A { s with heap := cut s.heap L } (froz H s.heap [L, e2, it2] L ca oc u)).A = A.deeper (envOfC qual scope L f cd) := by
      show A.deeper (envOfC qual scope (cut s.heap L).objs.size f cd) = _
      rw [hz]
    have fpok : ∀ bb ∈ [e2, it2], FpOk (Gc X N qual scope f cd A { s with heap := cut s.heap L } (froz H s.heap [L, e2, it2] L ca oc u)) [] (froz H s.heap [L, e2, it2] L ca oc u) bb := fun bb hb => by
      have hm : bb ∈ [L, e2, it2] := List.mem_cons_of_mem _ hb
      have hbL : bb ≠ L := by
        rcases List.mem_cons.mp hb with z | z
        · rw [z]; exact hLe
        · rw [List.mem_singleton.mp z]; exact hLi
      refine ⟨froz_own (fun z => hco (z ▸ hm)) hm, ?_, fun z => ?_, .inr ?_, fun x c h1 => ?_, fun q hq => absurd hq (by simp [Cx.wish, cxOf])⟩
      · show bb ≠ (cut s.heap L).objs.size
        rw [hz]; exact hbL
      · exact absurd (Nat.lt_of_lt_of_le (hfs bb z) (hoL bb hm)) (Nat.lt_irrefl _)
      · show (cut s.heap L).objs.size ≤ bb
        rw [hz]; exact hoL bb hm
      · have h2 : (PySem.cellsFrom ((cut s.heap L).objs.size + 1) scope.names []).lookup x = some c := h1
        rw [no_cells _ _ _ T.S.nc] at h2
        cases h2
    refine seg_forLoop ?_
    rw [eAr, ← eA]
    refine wpAny_mono (TU.done (Gc X N qual scope f cd A { s with heap := cut s.heap L } (froz H s.heap [L, e2, it2] L ca oc u)) rfl rfl rfl rfl i [] s _ _ (fun _ _ => False) J fpok ⟨hen, hit, hei, hca3, hca2⟩ ⟨xs, hu2 _ oc froz_ca, by omega⟩) (fun rr s4 ⟨hr, J4⟩ => ?_) fun x s' z => False.elim z
    subst hr
    have st := step_of I hfs hoL ⟨v0, hv0⟩ hoc hco J4
    exact seg_block0 (seg_leaf (.ok .next) (seg_end (.ok (.ret .none)) ⟨.inl rfl, rfl, hS.trans st⟩))
  | succ r ih =>
    intro i s₀ s a1 a2 hi hR hS hLs hloc hen hit
    obtain ⟨pins, σ, H, I, hcH, hq, hoH⟩ := hR
    obtain ⟨v0, hv0⟩ := hcH
    obtain ⟨oc, hoc⟩ := ok_there (I.hok ca v0 hv0)
    obtain ⟨u, hu, hu2⟩ := sqX_obj I.hok hq ⟨v0, hv0⟩ hoc fun o hl => (I.bs ca o (I.ok.mod.kin _ _ hl)).2
    have hz : (cut s.heap L).objs.size = L := cut_size (Nat.le_of_lt hLs)
    have J := inv_gen (qual := qual) (f := f) (cd := cd) (own := [L, e2, it2]) I T.S hhd hfr (Nat.le_of_lt hLs) hX hfs List.mem_cons_self (hoH L List.mem_cons_self) hcaL hoc ⟨v0, hv0⟩ hu hloc (by rw [T.three]; rfl)
    have eE : (Gc X N qual scope f cd A { s with heap := cut s.heap L } (froz H s.heap [L, e2, it2] L ca oc u)).env = envOfC qual scope L f cd := by
      show envOfC qual scope (cut s.heap L).objs.size f cd = _
      rw [hz]
    have eA : (Gc X N qual scope f cd A { s with heap := cut s.heap L } (froz H s.heap [L, e2, it2] L ca oc u)).A = A.deeper (envOfC qual scope L f cd) := by
      show A.deeper (envOfC qual scope (cut s.heap L).objs.size f cd) = _
      rw [hz]
    have fpok : ∀ bb ∈ [e2, it2], FpOk (Gc X N qual scope f cd A { s with heap := cut s.heap L } (froz H s.heap [L, e2, it2] L ca oc u)) [] (froz H s.heap [L, e2, it2] L ca oc u) bb := fun bb hb => by
      have hm : bb ∈ [L, e2, it2] := List.mem_cons_of_mem _ hb
      have hbL : bb ≠ L := by
        rcases List.mem_cons.mp hb with z | z
        · rw [z]; exact hLe
        · rw [List.mem_singleton.mp z]; exact hLi
      refine ⟨froz_own (fun z => hco (z ▸ hm)) hm, ?_, fun z => ?_, .inr ?_, fun x c h1 => ?_, fun q hq => absurd hq (by simp [Cx.wish, cxOf])⟩
      · show bb ≠ (cut s.heap L).objs.size
        rw [hz]; exact hbL
      · exact absurd (Nat.lt_of_lt_of_le (hfs bb z) (hoL bb hm)) (Nat.lt_irrefl _)
      · show (cut s.heap L).objs.size ≤ bb
        rw [hz]; exact hoL bb hm
      · have h2 : (PySem.cellsFrom ((cut s.heap L).objs.size + 1) scope.names []).lookup x = some c := h1
        rw [no_cells _ _ _ T.S.nc] at h2
        cases h2
    have hilt : i < xs.length := by omega
    have hSq : SqX b X.K (froz H s.heap [L, e2, it2] L ca oc u) ca xs := hu2 _ oc froz_ca
    obtain ⟨gG, te, hgG, hte, hstep⟩ := T.step A { s with heap := cut s.heap L } (froz H s.heap [L, e2, it2] L ca oc u)
    refine seg_forLoop ?_
    rw [eAr, ← eA]
    refine wpAny_mono (TU.item (Gc X N qual scope f cd A { s with heap := cut s.heap L } (froz H s.heap [L, e2, it2] L ca oc u)) rfl rfl rfl rfl i [] s _ _ (fun _ _ => False) J fpok ⟨hen, hit, hei, hca3, hca2⟩ ⟨xs, xs[i], hSq, List.getElem?_eq_getElem hilt⟩) (fun rr s4 ⟨u4, hr, h4⟩ => ?_) fun x s' z => False.elim z
    subst hr
    refine wpAny_mono h4 (fun _ s5 ⟨xv, H5, J5, r5, y5, st5, fr5⟩ => ?_) fun x s' z => False.elim z
    obtain ⟨Tp, xq, rfl, hTn, rfl, hxq⟩ := y5
    have exq : xq = xs[i] := by
      have q := hxq xs hSq
      rw [List.getElem?_eq_getElem hilt] at q
      exact (Option.some.inj q).symm
    subst exq
    -- the iterator's objects pinned from here
    have J5' := J5.pinned (fun bb hb => ⟨fr5 bb hb, (fpok bb hb).2⟩) (TU.obj _ _ st5)
    have q6 := hstep i xs[i] Tp a1 a2 (froz H s.heap [L, e2, it2] L ca oc u) (List.getElem?_eq_getElem hilt) hTn hSq
    have w6 := hgG.run _ s5 _ _ (.ref Tp) u4 _ J5' r5 q6
    rw [eE] at w6
    refine wpAny_mono w6 (fun _ s6 ⟨σ6, H6, J6, ⟨b1, b2, hσ6⟩, q7⟩ => ?_) fun x s' z => False.elim z
    subst hσ6
    refine seg_execs_cons (seg_Expr_Yield rfl rfl rfl ?_ T.co T.ni)
    have w7 := hte.run _ s6 _ _ _ J6 q7
    rw [eE] at w7
    rw [eAr, ← eA]
    refine wpAny_mono w7 (fun v s7 ⟨y, H7, J7, r7, D, hyD, hDn, hHD, hHn, hlen⟩ => ?_) fun x s' z => False.elim z
    subst hyD
    obtain rfl : v = Value.ref D := r7
    -- its own objects are no new tuple's
    have J7u : Inv (Gc X N qual scope f cd A { s with heap := cut s.heap L } (froz H s.heap [L, e2, it2] L ca oc u)) [] [some (.ref ca), b1, b2] H7 s7 := Inv.unpinned (pins := []) J7
    have pinned : ∀ bb ∈ [e2, it2], ∀ o, s5.heap.get? bb = some o → s7.heap.get? bb = some o ∧ H7 bb = none := fun bb hb o eo => by
      have q := J7.pin (bb, o) (List.mem_append_right _ (List.mem_append_right _ (mem_pinsAt hb eo)))
      exact ⟨q.1, q.2.1⟩
    have hDo : D ∉ [L, e2, it2] := fun hm => by
      rcases List.mem_cons.mp hm with z | z
      · have q : H7 (cut s.heap L).objs.size = none := J7.free
        rw [hz, ← z, hHD] at q; cases q
      · obtain ⟨o, eo, _⟩ := TU.obj _ _ st5 D z
        have q := (pinned D z o eo).2
        rw [hHD] at q; cases q
    have hDf : froz H s.heap [L, e2, it2] L ca oc u D = none := by
      by_cases z : D = Tp
      · rw [z]; exact hTn
      · rw [upd_ne z] at hDn; exact hDn
    have hDs : s.heap.get? D = none := new_of I ⟨v0, hv0⟩ hDf hDo J7u hHD
    have st := step_of I hfs hoL ⟨v0, hv0⟩ hoc hco J7u
    have hD0 : s₀.heap.get? D = none := by
      cases q : s₀.heap.get? D with
      | none => rfl
      | some o =>
        by_cases hf : D ∈ frs X.stack
        · obtain ⟨sl, e'⟩ := hS.slot D o hf q
          rw [hDs] at e'; cases e'
        · have e' := hS.keep D o hDo hf q
          rw [hDs] at e'; cases e'
    obtain ⟨hl7, its, rv, ht⟩ := J7.hok D _ hHD
    have eidx : xs.length - 1 - r = i := by omega
    obtain ⟨m7, hn7, hl7'⟩ := J7.loc
    have hn7' : s7.heap.Ns L m7 := by
      have q : s7.heap.Ns (cut s.heap L).objs.size m7 := hn7
      rw [hz] at q; exact q
    have loc7 : LocAt s7.heap L N [some (.ref ca), b1, b2] := ⟨m7, hn7', fun j x v h1 h2 => by
      obtain ⟨u', ru, lk⟩ := hl7' j x v h1 h2 (.inl (T.S.loc x (List.mem_of_getElem? h1)))
      rcases lk with lk | ⟨lk, _⟩
      · exact ⟨u', ru, lk.2⟩
      · exfalso
        have hk : scope.names.lookup x = some .local := T.S.loc x (List.mem_of_getElem? h1)
        have lk' : scope.names.lookup x = some .cell ∨ scope.names.lookup x = some .free := lk
        rw [hk] at lk'
        rcases lk' with z | z <;> cases z⟩
    have L7 : L < s7.heap.objs.size := hn7'.lt
    have tn7 := TU.keep _ _ s7.heap st5 fun bb hb o eo => (pinned bb hb o eo).1
    intro kap hk
    refine ⟨hS.trans st, ⟨D, its, rfl, hD0, hDo, by rw [eidx]; exact hlen, by rw [eidx]; exact rv, ht⟩, fun bb hb => ?_, fun s₂ hl => hk .none s₂ ?_⟩
    · rcases List.mem_cons.mp hb with z | z
      · obtain ⟨ob, es, ep, ho, hd, _⟩ := hn7'
        exact ⟨ob, by rw [z]; exact ho, fun v q => by rw [hd] at q; cases q⟩
      · exact TU.obj _ _ tn7 bb z
    · obtain ⟨hkeep, hR2⟩ := hl
      have tn2 := TU.keep _ _ s₂.heap tn7 fun bb hb o eo => hkeep bb (List.mem_cons_of_mem _ hb) o eo
      have loc2 : LocAt s₂.heap L N [some (.ref ca), b1, b2] := loc7.keeps fun o eo => hkeep L List.mem_cons_self o eo
      have L2' : L < s₂.heap.objs.size := by
        obtain ⟨m, hn, _⟩ := loc2
        exact hn.lt
      have bare2 : AllBare s₂.gens := by obtain ⟨_, _, _, I2, _⟩ := hR2; exact I2.bare
      refine seg_execs_nil (seg_again rfl ?_)
      exact ih (i + 1) s₂ s₂ b1 b2 (by omega) hR2 (Step.refl bare2) L2' loc2 tn2.1 tn2.2.1
end
end Gx

/-! Gx7: for .. in enumerate(g(x)) where g is a generator def of one loop. -/
namespace Gx
open PySem PySem.Spec PyProof.Rows L2 GenW
open Sem (wp)

theorem Inv_gens {X : Cx} {pins : List (Addr × Obj)} {σ : L2.St} {H : Hp} {s : Shared} {G : Array GenState} (I : Inv X pins σ H s) (hG : AllBare G) : Inv X pins σ H { s with gens := G } :=
  ⟨I.ok, I.os, hG, I.base, I.loc, I.cell, I.free, I.freeC, I.pin, I.hok, I.len⟩

/-! ### a waking, its new state told as a sleeper -/
theorem wpAny_resumeS {M : Model} {A : Around} {R : GenEnd} {Y : Protocol} {n : Nat} {E : Value → Shared → Prop} {s : Shared} {g : Nat} {gs : GenState} {r : Resume} {l : List Value} {α : Type} {k : GenResult → Sem α} {Q : α → Shared → Prop}
    (hg : s.gens[g]? = some gs) (hgo : gs.Goes M A R Y n r (s.setGen g .running))
    (hR : ∀ x s₁, R n (s.setGen g .running) x s₁ → wpAny M A (k (End.ret x).result) Q E (s₁.setGen g .finished))
    (hY : ∀ v s₁ k' l' c' p' fs' cl, cl = false → Y (n - 1) (s.setGen g .running) v s₁ (fun r' s'' => match n with | 0 => False | m + 1 => (GenState.suspended k' l' c' p' fs' cl).Goes M A R Y m r' s'') →
      wpAny M A (k (.yielded v)) Q E (s₁.setGen g (.suspended k' l' c' p' fs' cl))) : wpAny M A (.resume g r l k) Q E s := by
  intro Γ p hΓ
  rw [Sem.wp_resume]
  have fin : ∀ e₁ s₁, SegEnd R Y n (Seg.next M A R Y n) (s.setGen g .running) e₁ s₁ → e₁.quiet = true ∧ wp M Γ (k e₁.result) (fun a _ s' => Q a s') (fun e _ s' => E e s') p (s₁.setGen g e₁.genState) := by
    intro e₁ s₁ he
    cases e₁ with
    | ret x => exact ⟨rfl, hR x s₁ he Γ p hΓ⟩
    | susp v g₀ l₀ k₀ c₀ p₀ fs₀ =>
      refine ⟨he.1, hY v s₁ k₀ l₀ c₀ p₀ fs₀ _ (by have q := he.1; simpa [End.quiet] using q) ?_ Γ p hΓ⟩
      cases n with
      | zero => exact he.2
      | succ m => exact he.2
  cases gs with
  | fresh c =>
    obtain ⟨rfl, hs⟩ := hgo
    obtain ⟨e₁, s₁, hr, he⟩ := seg_iff.mp hs (Γ.wake c p) p rfl (hΓ.wake c p)
    obtain ⟨f1, f2⟩ := fin e₁ s₁ he
    exact ⟨_, _, by unfold Wakes; rw [hg]; exact ⟨e₁, s₁, hr, f1, rfl, rfl⟩, f2⟩
  | suspended k₀ l₀ c₀ p₀ fs₀ cl =>
    obtain ⟨e₁, s₁, hr, he⟩ := seg_iff.mp hgo (Γ.wake c₀ p) p₀ rfl (hΓ.wake c₀ p)
    obtain ⟨f1, f2⟩ := fin e₁ s₁ he
    exact ⟨_, _, by unfold Wakes; rw [hg]; exact ⟨e₁, s₁, hr, f1, rfl, rfl⟩, f2⟩
  | running => exact False.elim hgo
  | finished => exact False.elim hgo
theorem nextOf_genS {P : Program} {w : World} {A : Around} {E : Value → Shared → Prop} {s : Shared} {a : Addr} {g n : Nat} {gs : GenState} {F : Nat → Shared → Shared → Prop} {Y : Protocol} {Q : Value → Shared → Prop} (hh : A.handled = none)
    (hl : s.heap.NoLimit) (hroom : A.depth < recursionLimit) (hg : s.heap.IsGen a g) (hgs : s.gens[g]? = some gs)
    (hgo : gs.Goes (model P w) A.in1 (fun n s₀ r s₁ => (r = .ok (.ret .none) ∨ r = .ok .next) ∧ F n s₀ s₁) Y n (.send .none) (s.setGen g .running))
    (hY : ∀ v s₁ k' l' c' p' fs' cl, cl = false → Y (n - 1) (s.setGen g .running) v s₁ (fun r' s'' => match n with
        | 0 => False
        | m + 1 => (GenState.suspended k' l' c' p' fs' cl).Goes (model P w) A.in1 (fun n s₀ r s₁ => (r = .ok (.ret .none) ∨ r = .ok .next) ∧ F n s₀ s₁) Y m r' s'') → Q v (s₁.setGen g (.suspended k' l' c' p' fs' cl)))
    (hP : ∀ s₁, F n (s.setGen g .running) s₁ → ∀ h' ex, (∀ b o, s₁.heap.get? b = some o → h'.get? b = some o) → (∃ o, h'.get? ex = some o ∧ o.cls = .type "StopIteration") → E (.ref ex) { s₁.setGen g .finished with heap := h' }) :
    wpAny (model P w) A (Builtin.SmallTypes.nextOf (.ref a)) Q E s := by
  unfold Builtin.SmallTypes.nextOf
  refine wpAny_bind (wpAny_callSpecial?_slot (name := Str.ofString "__next__") hg.typeIs slot_gen_next (wpAny_call_entry slot_gen_next hg.typeIs entry_gen_next ?_ (args_gen_next _)))
  show wpAny _ A.in1 (Builtin.Generator.genWake (.ref a) (.send .none)) _ _ s
  unfold Builtin.Generator.genWake
  refine wpAny_bind (wpAny_holding (wpAny_genNumber hg (wpAny_bind (wpAny_genState hgs ?_))))
  cases gs with
  | running => exact False.elim hgo
  | finished => exact False.elim hgo
  | _ =>
    refine wpAny_bind (wpAny_roomToWake hl hroom ?_)
    show wpAny _ A.in1 (.resume g (.send .none) [] _) _ _ s
    refine wpAny_resumeS hgs hgo (fun x s₁ hx => ?_) (fun v s₁ k' l' c' p' fs' cl hb hv => ?_)
    · obtain ⟨hr, hp⟩ := hx
      have hres : End.result (.ret x) = .returned .none := by rcases hr with hr | hr <;> rw [hr] <;> rfl
      first | rw [hres] | simp only [hres]
      show wpAny _ A.in1 (newExc (.type "StopIteration") [] >>= _) _ _ _
      refine wpAny_bind ?_
      simp only [newExc, newTuple]
      refine wpAny_bind (wpAny_newObj_type ?_ (by size_fits))
      refine wpAny_bind (m := firstArgMember _ _) (wpAny_of_eq (a := Value.none) (by first | rfl | (simp only [firstArgMember]; rfl)) ?_)
      refine wpAny_newObj_type ?_ (by size_fits)
      simp only [raiseNew]
      refine wpAny_bind (wpAny_bind (wpAny_handled ?_))
      first | rw [show A.in1.handled = none from hh] | rw [hh]
      refine wpAny_throw ?_
      exact hP s₁ hp _ _ (fun b o hb => Heap.get?_push_of_some _ (Heap.get?_push_of_some _ hb)) ⟨_, Heap.get?_push_size _ rfl, rfl⟩
    · exact wpAny_pure ⟨v, rfl, wpAny_pure (hY v s₁ k' l' c' p' fs' cl hb hv)⟩

/-! ### the start -/
section
variable {X : Cx} {N : List Str} {qual : Str} {scope : Scope} {f : Addr} {cd : Value} {A : Around} {L ca : Nat} {b : Bool} {xs : List V} {out : Nat → List V} {elts : List Expr} {kk : Nat} {tpos yp yq fpos cpos npos epos : Pos} {eY : Expr} {x0 : Str}
abbrev gbody (elts : List Expr) (kk : Nat) (tpos : Pos) (x0 : Str) (npos epos cpos : Pos) (eY : Expr) (yp yq fpos : Pos) : List Stmt :=
  [.For (.Tuple elts kk tpos) (.Call (.Name "enumerate" epos) [.Name x0 npos] [] cpos) (yst eY yp yq) [] fpos]
structure GHead (X : Cx) (N : List Str) (scope : Scope) (x0 : Str) : Prop where
  at0 : N[0]? = some x0
  gen : scope.names.lookup ("enumerate" : Str) = some .globalImplicit
  mg : X.mg "enumerate" = none
  nd : (x0 == ("__debug__" : Str)) = false
theorem gen_start (T : GText X N qual scope f cd b ca xs out elts kk tpos eY) (G : GHead X N scope x0) (hhd : A.handled = none) (hfr : A.frames = some X.stack) (hX : X.s_0.heap.objs.size ≤ L) (hfs : ∀ bb ∈ frs X.stack, bb < L)
    {s : Shared} (hR : Ready X [L] b ca xs s) (hLs : L < s.heap.objs.size) (hcL : ca ≠ L) (hloc : LocAt s.heap L N [some (.ref ca), none, none]) :
    Seg (model X.prog X.w) A (GE X [L, s.heap.objs.size + 1, s.heap.objs.size]) (GP X [L, s.heap.objs.size + 1, s.heap.objs.size] b ca xs xs.length out) xs.length s
      (.func (gbody elts kk tpos x0 npos epos cpos eY yp yq fpos) (envOfC qual scope L f cd)) ((model X.prog X.w).den (.func (gbody elts kk tpos x0 npos epos cpos eY yp yq fpos) (envOfC qual scope L f cd))) [] s := by
  obtain ⟨pins, σ, H, I, hcH, hq, hoH⟩ := hR
  obtain ⟨v0, hv0⟩ := hcH
  obtain ⟨oc, hoc⟩ := ok_there (I.hok ca v0 hv0)
  obtain ⟨u, hu, hu2⟩ := sqX_obj I.hok hq ⟨v0, hv0⟩ hoc fun o hl => (I.bs ca o (I.ok.mod.kin _ _ hl)).2
  have hz : (cut s.heap L).objs.size = L := cut_size (Nat.le_of_lt hLs)
  have J := inv_gen (qual := qual) (f := f) (cd := cd) (own := [L]) I T.S hhd hfr (Nat.le_of_lt hLs) hX hfs List.mem_cons_self (hoH L List.mem_cons_self) hcL hoc ⟨v0, hv0⟩ hu hloc (by rw [T.three]; rfl)
  have eE : (Gc X N qual scope f cd A { s with heap := cut s.heap L } (froz H s.heap [L] L ca oc u)).env = envOfC qual scope L f cd := by
    show envOfC qual scope (cut s.heap L).objs.size f cd = _
    rw [hz]
  have eA : (Gc X N qual scope f cd A { s with heap := cut s.heap L } (froz H s.heap [L] L ca oc u)).A = A.deeper (envOfC qual scope L f cd) := by
    show A.deeper (envOfC qual scope (cut s.heap L).objs.size f cd) = _
    rw [hz]
  refine seg_func (seg_execs_cons (seg_For (fun _ => rfl) ?_))
  rw [over_func]
  have name : wpAny (model X.prog X.w) (A.deeper (envOfC qual scope L f cd)) (eval (.Name x0 npos) (envOfC qual scope L f cd)) (fun v s' => v = .ref ca ∧ s' = s) (fun _ _ => False) s := by
    obtain ⟨m, hn, r⟩ := hloc
    obtain ⟨uu, ru, hm⟩ := r 0 x0 (.ref ca) G.at0 rfl
    obtain rfl : uu = Value.ref ca := ru
    exact wpAny_Name (wpAny_loadName_local T.S.kind (show scope.names.lookup x0 = some .local from T.S.loc x0 (List.mem_of_getElem? G.at0)) hn hm ⟨rfl, rfl⟩) G.nd
  obtain ⟨its, rv, pq⟩ := seqX I hq
  have ev : wpAny (model X.prog X.w) (A.deeper (envOfC qual scope L f cd)) (eval (.Call (.Name "enumerate" epos) [.Name x0 npos] [] cpos) (envOfC qual scope L f cd))
      (fun v s₁ => ∃ h', v = .ref (s.heap.objs.size + 1) ∧ s₁ = { s with heap := h' } ∧ IsEnum h' (s.heap.objs.size + 1) s.heap.objs.size 0 .none ∧ h'.get? s.heap.objs.size = some (itObjX b ca) ∧ h'.objs.size = s.heap.objs.size + 2 ∧ ∀ bb o, s.heap.get? bb = some o → h'.get? bb = some o) (fun _ _ => False) s := by
    have ld : ∀ Q : Value → Shared → Prop, Q (.type "enumerate") s → wpAny (model X.prog X.w) (A.deeper (envOfC qual scope L f cd)) (eval (.Name "enumerate" epos) (envOfC qual scope L f cd)) Q (fun _ _ => False) s := fun Q hQ => by
      have q := ld_blt (Q := Q) (E := fun _ _ => False) (x := "enumerate") (pos := epos) J (show scope.names.lookup ("enumerate" : Str) = some .globalImplicit from G.gen) G.mg boot_enumerate hQ
      rw [eA, eE] at q
      exact q
    refine Call_ (ld _ (PyProof.Rows.callWith_type1 ?_ rfl rfl))
    show wpAny _ _ (spliced ((false, eval (.Name x0 npos) (envOfC qual scope L f cd)) :: backTo cpos (starEach [] (envOfC qual scope L f cd)))) _ _ s
    refine Calls.spliced_cons (wpAny_mono name (fun v s' ⟨e1, e2⟩ => ?_) fun _ _ z => z)
    subst e1 e2
    refine Calls.spliced_nil ?_
    exact call_enum_one (beginsX b ca its.toArray) pq fun h' a1 a2 a3 a4 => ⟨h', rfl, rfl, a1, a2, a3, a4⟩
  refine wpAny_mono ev (fun v s₁ ⟨h', e1, e2, hen, hit, hsz, hk⟩ => ?_) fun _ _ z => False.elim z
  subst e1 e2
  refine wpAny_pyIter_enum (s := { s with heap := h' }) hen fun p => ?_
  have hI2 : Inv X pins σ H { s with heap := h' } := I.kept (t' := s.toks) hk
  have hcs : ca < s.heap.objs.size := Heap.lt_size hoc
  have hL2 : L < s.heap.objs.size + 2 := by omega
  have own0 : ∀ bb ∈ [L, s.heap.objs.size + 1, s.heap.objs.size], L ≤ bb ∧ H bb = none := fun bb hb => by
    rcases List.mem_cons.mp hb with z | z
    · rw [z]; exact ⟨Nat.le_refl _, hoH L List.mem_cons_self⟩
    · rcases List.mem_cons.mp z with z | z
      · rw [z]; exact ⟨by omega, I.hok.fresh (Nat.le_succ _)⟩
      · rw [List.mem_singleton.mp z]; exact ⟨by omega, I.hok.fresh (Nat.le_refl _)⟩
  refine gen_loop (e2 := s.heap.objs.size + 1) (it2 := s.heap.objs.size) T hhd hfr hX hfs (fun bb hb => (own0 bb hb).1) ?_ (by omega) (by omega) (by omega) xs.length 0 s { s with heap := h' } none none (by omega)
    ⟨pins, σ, H, hI2, ⟨v0, hv0⟩, hq, fun bb hb => (own0 bb hb).2⟩ ⟨rfl, I.bare, fun bb o _ _ e => hk bb o e, fun bb o _ e => ⟨o.slots, hk bb o e⟩⟩ (by show L < h'.objs.size; rw [hsz]; exact hL2) (hloc.keeps fun o e => hk L o e) ⟨.none, hen⟩ (itX_new hit)
  intro hm
  rcases List.mem_cons.mp hm with z | z
  · exact hcL z
  · rcases List.mem_cons.mp z with z | z
    · omega
    · have := List.mem_singleton.mp z
      omega
end
end Gx

/-! Gx8: the consumer's loop. -/
namespace Gx
open PySem PySem.Spec PyProof.Rows L2 GenW

/-- an iterator that rests on a generator g: fp its objects at turn i -/
structure TurnG (X : Cx) (tg : Expr) (J : It) (it : Addr) (g : Nat) (tn : Nat → List Addr → Shared → Prop) : Prop where
  obj : ∀ i fp s, tn i fp s → ∀ bb ∈ fp, ∃ o, s.heap.get? bb = some o ∧ ∀ v, o.data ≠ .cell v
  keep : ∀ i fp s s', tn i fp s → (∀ bb ∈ fp, ∀ o, s.heap.get? bb = some o → s'.heap.get? bb = some o) → s'.gens[g]? = s.gens[g]? → tn i fp s'
  sleeps : ∀ i fp s, tn (i + 1) fp s → ∃ k l c p fs cl, s.gens[g]? = some (.suspended k l c p fs cl)
  item : ∀ (i : Nat) (fp : List Addr) (pins : List (Addr × Obj)) (s : Shared) (σ : L2.St) (H : Hp) (E : Value → Shared → Prop), Inv X pins σ H s → (∀ bb ∈ fp, FpOk X pins H bb) → tn i fp s → J.go i H →
    wpAny (model X.prog X.w) X.A (pyNext (.ref it)) (fun r s1 => ∃ u, r = some u ∧
      wpAny (model X.prog X.w) X.A (letOwnedTupleGo tg (.ref it) u) (fun _ s2 => ∃ x H' fp', Inv X pins σ H' s2 ∧ RelV x u ∧ J.yld i H x H' ∧ tn (i + 1) fp' s2 ∧ ∀ bb ∈ fp', FpOk X pins H' bb) E s1) E s
  done : ∀ (i : Nat) (fp : List Addr) (pins : List (Addr × Obj)) (s : Shared) (σ : L2.St) (H : Hp) (E : Value → Shared → Prop), Inv X pins σ H s → (∀ bb ∈ fp, FpOk X pins H bb) → tn i fp s → J.stop i H →
    wpAny (model X.prog X.w) X.A (pyNext (.ref it)) (fun r s1 => r = none ∧ Inv X pins σ H s1) E s
def PIGE (X : Cx) (pins : List (Addr × Obj)) (σ : L2.St) (tg : Expr) (R : It → Hp → Prop) (itv : Value) (s2 : Shared) : Prop :=
  ∃ (it : Addr) (g : Nat) (fp : List Addr) (tn : Nat → List Addr → Shared → Prop) (J : It) (H' : Hp), itv = .ref it ∧ Inv X pins σ H' s2 ∧ TurnG X tg J it g tn ∧ tn 0 fp s2 ∧ (∀ bb ∈ fp, FpOk X pins H' bb) ∧ R J H'
structure PIG (X : Cx) (tg iter : Expr) (wi : TI) : Prop where
  run : ∀ (pins : List (Addr × Obj)) (s : Shared) (σ : L2.St) (H : Hp) (R : It → Hp → Prop), Inv X pins σ H s → wi σ H R →
    wpAny (model X.prog X.w) X.A (eval iter X.env) (fun v s1 => wpAny (model X.prog X.w) X.A (pyIter v) (PIGE X pins σ tg R) X.xe s1) X.xe s

def SlKept (s s' : Shared) : Prop := ∀ (g : Nat) (k : Resume → Sem PySem.Fin) (l : List Value) (c : Code) (p : Pos) (fs : List Frame) (cl : Bool), s.gens[g]? = some (GenState.suspended k l c p fs cl) → s'.gens[g]? = some (GenState.suspended k l c p fs cl)
section
variable {X : Cx} {tg : Expr}
/-- a run that wakes no sleeper, over a state with sleepers -/
theorem asleep_PS {body : List Stmt} {tb : TS} (hb : PSs X body tb) (hx : ∀ e s, X.xe e s → False) {pins : List (Addr × Obj)} {s : Shared} {σ : L2.St} {H : Hp} {D : Ends} (I : Inv X pins σ H s) (h : tb D σ H) :
    wpAny (model X.prog X.w) X.A (execs body X.env) (fun f s' => SP X pins D f s' ∧ SlKept s s') X.xe s := by
  have I0 : Inv X pins σ H (deaden s) := Inv_gens I (bare_deaden I.bare)
  refine wpAny_mono (wpAny_sleeping (hb.run pins (deaden s) σ H D I0 h)) (fun f s' ⟨s₁, e, G, q⟩ => ?_) fun e s' ⟨s₁, _, _, q⟩ => (hx e s₁ q).elim
  subst e
  refine ⟨?_, fun g k l c p fs cl hg => sleeper_stays hg G⟩
  have up : ∀ {σ' : L2.St} {H' : Hp}, Inv X pins σ' H' s₁ → Inv X pins σ' H' (lift (sleepers s.gens) s₁) := fun {σ' H'} J => Inv_gens J (bare_lift I.bare J.bare)
  cases f with
  | next => obtain ⟨σ', H', J, r⟩ := q; exact ⟨σ', H', up J, r⟩
  | brk => obtain ⟨σ', H', J, r⟩ := q; exact ⟨σ', H', up J, r⟩
  | cont => obtain ⟨σ', H', J, r⟩ := q; exact ⟨σ', H', up J, r⟩
  | ret u => obtain ⟨v, σ', H', J, rv, r⟩ := q; exact ⟨v, σ', H', up J, rv, r⟩
theorem asleep_PG {g : TG} (hg : PG X tg g) (hx : ∀ e s, X.xe e s → False) {pins : List (Addr × Obj)} {s : Shared} {σ : L2.St} {H : Hp} {v : V} {u : Value} {Q : L2.St → Hp → Prop} (I : Inv X pins σ H s) (r : RelV v u) (h : g v σ H Q) :
    wpAny (model X.prog X.w) X.A (assign tg X.env u) (fun _ s' => (∃ σ' H', Inv X pins σ' H' s' ∧ Q σ' H') ∧ SlKept s s') X.xe s := by
  have I0 : Inv X pins σ H (deaden s) := Inv_gens I (bare_deaden I.bare)
  refine wpAny_mono (wpAny_sleeping (hg.run pins (deaden s) σ H v u Q I0 r h)) (fun f s' ⟨s₁, e, G, q⟩ => ?_) fun e s' ⟨s₁, _, _, q⟩ => (hx e s₁ q).elim
  subst e
  obtain ⟨σ', H', J, q⟩ := q
  exact ⟨⟨σ', H', Inv_gens J (bare_lift I.bare J.bare), q⟩, fun g k l c p fs cl hg => sleeper_stays hg G⟩

theorem ps_forG {iter : Expr} {body : List Stmt} {wi : TI} {g : TG} {tb : TS} {pos : Pos} (hx : ∀ e s, X.xe e s → False) (hp : PassesOwn (model X.prog X.w) X.A X.env X.xe) (hi : PIG X tg iter wi) (hg : PG X tg g) (hb : PSs X body tb)
    (hs : ∀ x, foldedSetIterable iter X.env x = pure x := by intro _; rfl) : PS X (.For tg iter body [] pos) (tFor wi g tb) := by
  refine ⟨fun pins s σ H D I h => ?_⟩
  refine wpAny_For (thn (hi.run pins s σ H _ I h) fun v s1 h1 => thn h1 fun itv s2 h2 => ?_) hs
  obtain ⟨it, gn, fp0, tn, J, H2, e, I2, T, st2, f2, W, ⟨m0, w0⟩, turn⟩ := h2
  subst e
  refine codeAny_forLoop_any (fun n s' => ∃ i fp σ' H', Inv X pins σ' H' s' ∧ tn i fp s' ∧ (∀ bb ∈ fp, FpOk X pins H' bb) ∧ W i n σ' H') ?_ m0 ⟨0, fp0, σ, H2, I2, st2, f2, w0⟩
  rintro n s3 ⟨i, fp, σ3, H3, I3, st3, fr3, w3⟩
  rcases turn i n σ3 H3 w3 with ⟨stop, qn⟩ | ⟨go, N, hN, step⟩
  · refine wpAny_passesOwn hp (thn (T.done i fp pins s3 σ3 H3 X.xe I3 fr3 st3 stop) fun r s4 ⟨hr, I4⟩ => ?_)
    subst hr
    exact wpAny_execs_nil ⟨σ3, H3, I4, qn⟩
  · refine wpAny_passesOwn hp (thn (T.item i fp pins s3 σ3 H3 X.xe I3 fr3 st3 go) fun r s4 ⟨u, hr, h4⟩ => ?_)
    subst hr
    refine wpAny_passesOwn hp (thn h4 fun _ s5 ⟨x, H5, fp5, I5, r5, y5, st5, fr5⟩ => ?_)
    obtain ⟨k, l, c, p, fs, cl, hsl⟩ := T.sleeps i fp5 s5 st5
    have I5' := I5.pinned fr5 (T.obj _ _ _ st5)
    refine wpAny_passesOwn hp (thn (asleep_PG hg hx I5' r5 (step x H5 y5)) fun _ s6 ⟨⟨σ6, H6, I6, q6⟩, sl6⟩ => ?_)
    refine wpAny_passesOwn hp (thn (asleep_PS hb hx I6 q6) fun f s7 ⟨q7, sl7⟩ => ?_)
    have gsame : s7.gens[gn]? = s5.gens[gn]? := by rw [hsl]; exact sl7 gn k l c p fs cl (sl6 gn k l c p fs cl hsl)
    have again : ∀ {σ7 : L2.St} {H7 : Hp}, Inv X (pins ++ pinsAt fp5 s5.heap) σ7 H7 s7 → N σ7 H7 → ∃ m, m < n ∧ ∃ i fp σ' H', Inv X pins σ' H' s7 ∧ tn i fp s7 ∧ (∀ bb ∈ fp, FpOk X pins H' bb) ∧ W i m σ' H' := fun {σ7 H7} I7 n7 => by
      obtain ⟨m', hm, w7⟩ := hN σ7 H7 n7
      have pinned : ∀ bb ∈ fp5, ∀ o, s5.heap.get? bb = some o → s7.heap.get? bb = some o ∧ H7 bb = none := fun bb hb o eo => by
        have q := I7.pin (bb, o) (List.mem_append_right _ (List.mem_append_right _ (mem_pinsAt hb eo)))
        exact ⟨q.1, q.2.1⟩
      refine ⟨m', hm, i + 1, fp5, σ7, H7, I7.unpinned, T.keep _ _ _ _ st5 (fun bb hb o eo => (pinned bb hb o eo).1) gsame, fun bb hb => ?_, w7⟩
      obtain ⟨o, eo, _⟩ := T.obj _ _ _ st5 bb hb
      exact ⟨(pinned bb hb o eo).2, (fr5 bb hb).2⟩
    cases f with
    | next => obtain ⟨σ7, H7, I7, n7⟩ := q7; exact again I7 n7
    | cont => obtain ⟨σ7, H7, I7, n7⟩ := q7; exact again I7 n7
    | brk => obtain ⟨σ7, H7, I7, n7⟩ := q7; exact ⟨σ7, H7, I7.unpinned, n7⟩
    | ret v => obtain ⟨x7, σ7, H7, I7, r7, n7⟩ := q7; exact ⟨x7, σ7, H7, I7.unpinned, r7, n7⟩
end

/-! ### enumerate over such a generator, as an iterator -/
/-- turn i: a new tuple of xs's neighbours (out i), in a new pair with i -/
def Itg (b : Bool) (K : PySem.W.Frag) (ca : Addr) (xs : List V) (out : Nat → List V) : It :=
  ⟨fun i H => i < xs.length ∧ SqX b K H ca xs ∧ ∃ u, H ca = some u,
   fun i H x H' => ∃ D Pp, x = .ref Pp ∧ H D = none ∧ H Pp = none ∧ Pp ≠ D ∧ H' = upd (upd H D (.tup (out i))) Pp (.tup [.int (i : Nat), .ref D]),
   fun i H => i = xs.length ∧ SqX b K H ca xs ∧ ∃ u, H ca = some u⟩
section
variable {X : Cx} {N : List Str} {qual : Str} {scope : Scope} {f : Addr} {cd : Value} {L ca : Nat} {b : Bool} {xs : List V} {out : Nat → List V} {elts : List Expr} {kk : Nat} {tpos yp yq fpos cpos npos epos : Pos} {eY : Expr} {x0 : Str}
def tnG (X : Cx) (N : List Str) (qual : Str) (scope : Scope) (f : Addr) (cd : Value) (L ca : Nat) (b : Bool) (xs : List V) (out : Nat → List V) (body : List Stmt) (e a g : Nat) : Nat → List Addr → Shared → Prop
  | 0, fp, s => fp = [e, a, L] ∧ IsEnum s.heap e a 0 .none ∧ s.heap.IsGen a g ∧ s.gens[g]? = some (.fresh (.func body (envOfC qual scope L f cd))) ∧ LocAt s.heap L N [some (.ref ca), none, none] ∧ e ≠ a ∧ e ≠ L ∧ a ≠ L
  | i + 1, fp, s => ∃ (e2 it2 : Addr) (k : Resume → Sem PySem.Fin) (l : List Value) (c : Code) (p : Pos) (fs : List Frame) (cl : Bool) (s₁ : Shared), fp = [e, a, L, e2, it2] ∧ (∃ old, IsEnum s.heap e a ((i + 1 : Nat) : Int) old) ∧ s.heap.IsGen a g ∧ s.gens[g]? = some (.suspended k l c p fs cl) ∧ cl = false ∧
      (∀ bb ∈ [L, e2, it2], ∃ o, s₁.heap.get? bb = some o ∧ s.heap.get? bb = some o ∧ ∀ v, o.data ≠ .cell v) ∧ e ≠ a ∧ (∀ bb ∈ [L, e2, it2], bb ≠ e ∧ bb ≠ a ∧ L ≤ bb) ∧
      ∀ s₂, Later X [L, e2, it2] b ca xs s₁ s₂ → (GenState.suspended k l c p fs cl).Goes (model X.prog X.w) X.A.in1.in1 (GE X [L, e2, it2]) (GP X [L, e2, it2] b ca xs xs.length out) (xs.length - (i + 1)) (.send .none) s₂
theorem sqX_upd {K : PySem.W.Frag} {H : Hp} {D : Addr} {o : HO} (hn : H D = none) (h : SqX b K H ca xs) : SqX b K (upd H D o) ca xs := by
  cases b
  · rcases h with h | h
    · rcases h with h | ⟨ob, h⟩
      · exact .inl (.inl (by rw [upd_ne (ne_of_none h hn)]; exact h))
      · exact .inl (.inr ⟨ob, by rw [upd_ne (ne_of_none h hn)]; exact h⟩)
    · exact .inr h
  · rcases h with h | h
    · rcases h with h | ⟨ob, h⟩
      · exact .inl (.inl (by rw [upd_ne (ne_of_none h hn)]; exact h))
      · exact .inl (.inr ⟨ob, by rw [upd_ne (ne_of_none h hn)]; exact h⟩)
    · exact .inr h
theorem inv_step0 {pins : List (Addr × Obj)} {σ : L2.St} {H : Hp} {own : List Addr} {s s' : Shared} (I : Inv X pins σ H s) (S : Step X own s s') (hown : ∀ bb ∈ own, s.heap.get? bb = none ∨ FpOk X pins H bb) (hownH : ∀ bb ∈ own, H bb = none)
    (hL : ∀ bb ∈ own, X.s_0.heap.objs.size ≤ bb ∧ bb ≠ X.env.locals ∧ (∀ x c, X.env.cells.lookup x = some c → c ≠ bb)) : Inv X pins σ H s' := by
  have tr : ∀ bb u, H bb = some u → bb ∉ own := fun bb u e z => by rw [hownH bb z] at e; cases e
  have trf : ∀ bb u, H bb = some u → bb ∉ frs X.stack := fun bb u e z => by rw [I.stkFree bb z] at e; cases e
  refine I.call' (ch := own) S.os ⟨fun bb o e n h1 h2 => S.keep bb o h2 h1 e, fun bb o e n h1 h2 => S.slot bb o h1 e, fun bb o e n h2 => n, fun bb o e h2 => ?_, fun bb ys e => e, fun bb o y e => e, fun bb ps e => ⟨#[], by rw [e]; simp⟩⟩ (fun bb u e => ?_) S.bare fun bb hb => ?_
  · by_cases hf : bb ∈ frs X.stack
    · obtain ⟨sl, e'⟩ := S.slot bb o hf e; exact ⟨_, e'⟩
    · exact ⟨o, S.keep bb o h2 hf e⟩
  · refine (I.hok bb u e).stay (fun c v hc q => ?_) (fun c q => q) fun c ys q => q
    rcases hc with hc | hc
    · rw [hc] at q ⊢; exact S.keep bb v (tr bb u e) (trf bb u e) q
    · exact S.keep c v (tr c _ hc) (trf c _ hc) q
  · refine ⟨.inr (hL bb hb).1, (hL bb hb).2.1, (hL bb hb).2.2, fun p hp z => ?_⟩
    rcases hown bb hb with q | q
    · have := (I.pin p hp).1
      rw [z, q] at this; cases this
    · exact q.2.2.2.2.2 p hp z
/-- what a waking needs, whatever the turn -/
theorem tn_wakes (T : GText X N qual scope f cd b ca xs out elts kk tpos eY) (G : GHead X N scope x0) (hhd : X.A.handled = none) (hX : X.s_0.heap.objs.size ≤ L) (hfs : ∀ bb ∈ frs X.stack, bb < L)
    {e a g i : Nat} {fp : List Addr} {pins : List (Addr × Obj)} {s : Shared} {σ : L2.St} {H : Hp} (I : Inv X pins σ H s) (hf : ∀ bb ∈ fp, FpOk X pins H bb)
    (st : tnG X N qual scope f cd L ca b xs out (gbody elts kk tpos x0 npos epos cpos eY yp yq fpos) e a g i fp s) (hi : i ≤ xs.length) (hq : SqX b X.K H ca xs) (hcH : ∃ u, H ca = some u) :
    ∃ (e2 it2 : Addr) (gs : GenState) (old : Value), IsEnum s.heap e a ((i : Nat) : Int) old ∧ s.heap.IsGen a g ∧ s.gens[g]? = some gs ∧ e ∈ fp ∧ a ∈ fp ∧ e ≠ a ∧ (∀ bb ∈ [L, e2, it2], bb ≠ e ∧ bb ≠ a ∧ L ≤ bb ∧ H bb = none ∧ (s.heap.get? bb = none ∧ s.heap.objs.size ≤ bb ∨ FpOk X pins H bb)) ∧
      gs.Goes (model X.prog X.w) X.A.in1.in1 (GE X [L, e2, it2]) (GP X [L, e2, it2] b ca xs xs.length out) (xs.length - i) (.send .none) (s.setGen g .running) := by
  have bareR : AllBare (s.setGen g .running).gens := allBare_setGen I.bare rfl
  have IR : Inv X pins σ H (s.setGen g .running) := Inv_gens I bareR
  cases i with
  | zero =>
    obtain ⟨efp, he, hg, hgs, hloc, hea, heL, haL⟩ := st
    subst efp
    obtain ⟨fL0, fL1, fL2, fL3, fL4, fL5⟩ := hf L (by simp)
    have hLs : L < s.heap.objs.size := by obtain ⟨m, hn, _⟩ := hloc; exact hn.lt
    have hes : e < s.heap.objs.size := Heap.lt_size he
    have has : a < s.heap.objs.size := by obtain ⟨o, _, _, ho, _⟩ := hg; exact Heap.lt_size ho
    have hcL : ca ≠ L := fun z => by obtain ⟨u, hu⟩ := hcH; rw [z, fL0] at hu; cases hu
    have own : ∀ bb ∈ [L, s.heap.objs.size + 1, s.heap.objs.size], bb ≠ e ∧ bb ≠ a ∧ L ≤ bb ∧ H bb = none ∧ (s.heap.get? bb = none ∧ s.heap.objs.size ≤ bb ∨ FpOk X pins H bb) := fun bb hb => by
      rcases List.mem_cons.mp hb with z | z
      · rw [z]; exact ⟨heL.symm, haL.symm, Nat.le_refl _, fL0, .inr (hf L (by simp))⟩
      · have hge : s.heap.objs.size ≤ bb := by
          rcases List.mem_cons.mp z with z | z
          · rw [z]; exact Nat.le_succ _
          · rw [List.mem_singleton.mp z]; exact Nat.le_refl _
        refine ⟨by omega, by omega, by omega, I.hok.fresh hge, .inl ⟨?_, hge⟩⟩
        cases q : s.heap.get? bb with
        | none => rfl
        | some o => exact absurd (Heap.lt_size q) (Nat.not_lt.mpr hge)
    refine ⟨s.heap.objs.size + 1, s.heap.objs.size, _, _, he, hg, hgs, by simp, by simp, hea, own, rfl, ?_⟩
    exact gen_start (A := X.A.in1.in1) (s := s.setGen g .running) T G hhd I.ok.frames hX hfs ⟨pins, σ, H, IR, hcH, hq, fun bb hb => by rw [List.mem_singleton.mp hb]; exact fL0⟩ hLs hcL hloc
  | succ i =>
    obtain ⟨e2, it2, k, l, c, p, fs, cl, s₁, efp, ⟨old, he⟩, hg, hgs, hcl, hobj, hea, hne, hgo⟩ := st
    subst efp
    refine ⟨e2, it2, _, old, he, hg, hgs, by simp, by simp, hea, fun bb hb => ?_, hgo _ ⟨fun bb hb o eo => ?_, pins, σ, H, IR, hcH, hq, fun bb hb => ?_⟩⟩
    · have hm : bb ∈ [e, a, L, e2, it2] := List.mem_cons_of_mem _ (List.mem_cons_of_mem _ hb)
      exact ⟨(hne bb hb).1, (hne bb hb).2.1, (hne bb hb).2.2, (hf bb hm).1, .inr (hf bb hm)⟩
    · obtain ⟨o1, h1, h2, _⟩ := hobj bb hb
      rw [eo] at h1; cases h1
      exact h2
    · exact (hf bb (List.mem_cons_of_mem _ (List.mem_cons_of_mem _ hb))).1
theorem turn_gen (T : GText X N qual scope f cd b ca xs out elts kk tpos eY) (G : GHead X N scope x0) (hc : X.calm = true) (hX : X.s_0.heap.objs.size ≤ L) (hfs : ∀ bb ∈ frs X.stack, bb < L) (hro : X.A.depth < recursionLimit) (hLl : X.env.locals < L ∧ ∀ x c, X.env.cells.lookup x = some c → c < L)
    {e a g : Nat} {telts : List Expr} {tk : Nat} {ttp : Pos} : TurnG X (.Tuple telts tk ttp) (Itg b X.K ca xs out) e g (tnG X N qual scope f cd L ca b xs out (gbody elts kk tpos x0 npos epos cpos eY yp yq fpos) e a g) where
  obj := fun i fp s st bb hb => by
    have hgo : s.heap.IsGen a g → ∃ o, s.heap.get? a = some o ∧ ∀ v, o.data ≠ .cell v := fun ⟨o, _, _, ho, _, hd, _⟩ => ⟨o, ho, fun v z => by rw [hd] at z; cases z⟩
    cases i with
    | zero =>
      obtain ⟨efp, he, hg, hgs, ⟨m, ⟨ob, es, ep, ho, hd, _⟩, _⟩, _⟩ := st
      subst efp
      rcases List.mem_cons.mp hb with z | z
      · rw [z]; exact ⟨_, he, fun v q => nomatch q⟩
      · rcases List.mem_cons.mp z with z | z
        · rw [z]; exact hgo hg
        · rw [List.mem_singleton.mp z]; exact ⟨ob, ho, fun v q => by rw [hd] at q; cases q⟩
    | succ i =>
      obtain ⟨e2, it2, k, l, c, p, fs, cl, s₁, efp, ⟨old, he⟩, hg, hgs, hcl, hobj, hea, hne, _⟩ := st
      subst efp
      rcases List.mem_cons.mp hb with z | z
      · rw [z]; exact ⟨_, he, fun v q => nomatch q⟩
      · rcases List.mem_cons.mp z with z | z
        · rw [z]; exact hgo hg
        · obtain ⟨o, _, h2, h3⟩ := hobj bb z
          exact ⟨o, h2, h3⟩
  keep := fun i fp s s' st k hgn => by
    have gk : s.heap.IsGen a g → a ∈ fp → s'.heap.IsGen a g := fun ⟨o, nm, qn, ho, r⟩ ha => ⟨o, nm, qn, k a ha o ho, r⟩
    cases i with
    | zero =>
      obtain ⟨efp, he, hg, hgs, hloc, r⟩ := st
      subst efp
      exact ⟨rfl, k e (by simp) _ he, gk hg (by simp), hgn.trans hgs, hloc.keeps fun o eo => k L (by simp) o eo, r⟩
    | succ i =>
      obtain ⟨e2, it2, kk', l, c, p, fs, cl, s₁, efp, ⟨old, he⟩, hg, hgs, hcl, hobj, hea, hne, r⟩ := st
      subst efp
      refine ⟨e2, it2, kk', l, c, p, fs, cl, s₁, rfl, ⟨old, k e (by simp) _ he⟩, gk hg (by simp), hgn.trans hgs, hcl, fun bb hb => ?_, hea, hne, r⟩
      obtain ⟨o, h1, h2, h3⟩ := hobj bb hb
      exact ⟨o, h1, k bb (List.mem_cons_of_mem _ (List.mem_cons_of_mem _ hb)) o h2, h3⟩
  sleeps := fun i fp s st => by
    obtain ⟨e2, it2, k, l, c, p, fs, cl, s₁, efp, _, _, hgs, _⟩ := st
    exact ⟨k, l, c, p, fs, cl, hgs⟩
  item := fun i fp pins s σ H E I hf st hgo => by
    obtain ⟨hilt, hq, hcH⟩ := hgo
    obtain ⟨e2, it2, gs, old, he, hg, hgs, hefp, hafp, hea, own, goes⟩ := tn_wakes T G (I.ok.hd hc) hX hfs I hf st (Nat.le_of_lt hilt) hq hcH
    obtain ⟨m, hm⟩ : ∃ m, xs.length - i = m + 1 := ⟨xs.length - i - 1, by omega⟩
    rw [hm] at goes
    have hgl : g < s.gens.size := (Array.getElem?_eq_some_iff.mp hgs).1
    have fe := hf e hefp
    have fa := hf a hafp
    have enotfrs : ∀ bb, FpOk X pins H bb → bb ∉ frs X.stack := fun bb fb z => by
      rcases List.mem_cons.mp (I.stkSub bb z) with q | q
      · exact fb.2.1 q
      · exact fb.2.2.1 q
    refine pyNext_enum_some he (wpAny_gsz (n := g + 1) hgl (nextOf_genS (A := X.A.in1) (I.ok.hd hc) I.nolimit hro hg hgs goes (fun v s₁ k' l' c' p' fs' cl hcl hv => ?_) (fun s₁ hp h' ex hk hex => ?_)))
    · intro hsz
      obtain ⟨hS, ⟨D, its, rfl, hD, hDo, hlen, rv, ht⟩, hobj, hkap⟩ := hv
      have eidx : xs.length - 1 - (m + 1 - 1) = i := by omega
      rw [eidx] at hlen rv
      have hS' : Step X [L, e2, it2] s s₁ := ⟨hS.os, hS.bare, hS.keep, hS.slot⟩
      have hDs : s.heap.get? D = none := hD
      obtain ⟨hDn, I1⟩ := inv_step I hS' (fun bb hb => (own bb hb).2.2.2.2.imp And.left id) (fun bb hb => (own bb hb).2.2.2.1)
        (fun bb hb => ⟨Nat.le_trans hX (own bb hb).2.2.1, Nat.ne_of_gt (Nat.lt_of_lt_of_le hLl.1 (own bb hb).2.2.1), fun x c hxc => Nat.ne_of_lt (Nat.lt_of_lt_of_le (hLl.2 x c hxc) (own bb hb).2.2.1)⟩) hDs hlen rv ht
      have heo : e ∉ [L, e2, it2] := fun z => (own e z).1 rfl
      have hao : a ∉ [L, e2, it2] := fun z => (own a z).2.1 rfl
      have he1 : IsEnum s₁.heap e a ((i : Nat) : Int) old := hS'.keep e _ heo (enotfrs e fe) he
      have hg1 : s₁.heap.IsGen a g := by obtain ⟨o, nm, qn, ho, r⟩ := hg; exact ⟨o, nm, qn, hS'.keep a o hao (enotfrs a fa) ho, r⟩
      have hgsz : g < s₁.gens.size := by
        have q : (s₁.setGen g (.suspended k' l' c' p' fs' cl)).gens.size = s₁.gens.size := GenW.setGen_size _ _ _
        have q2 : g + 1 ≤ (s₁.setGen g (.suspended k' l' c' p' fs' cl)).gens.size := hsz
        omega
      refine ⟨he1, fun h' hout hT hz hk => ⟨_, rfl, ?_⟩⟩
      refine wpAny_letOwnedTupleGo_enum (s := { s₁.setGen g (.suspended k' l' c' p' fs' cl) with heap := h', toks := (s₁.setGen g (.suspended k' l' c' p' fs' cl)).toks + 1 }) hout fun h'' he'' sb => ?_
      have hb2 : AllBare (s₁.setGen g (.suspended k' l' c' p' fs' cl)).gens := allBare_setGen hS'.bare (by rw [hcl]; rfl)
      have I2 : Inv X pins σ (upd H D (.tup (out i))) (s₁.setGen g (.suspended k' l' c' p' fs' cl)) := Inv_gens I1 hb2
      have hes : e < s₁.heap.objs.size := Heap.lt_size he1
      have hT2 : h''.get? s₁.heap.objs.size = some { cls := .type "tuple", data := .seq #[.int i s₁.toks, .ref D] } := (sb.2 _ (Nat.ne_of_gt hes)).trans hT
      have hDlt : D < s₁.heap.objs.size := by obtain ⟨o, ho, _⟩ := ht; exact Heap.lt_size ho
      have hPn : (upd H D (.tup (out i))) s₁.heap.objs.size = none := I1.hok.fresh (Nat.le_refl _)
      have hPD : s₁.heap.objs.size ≠ D := Nat.ne_of_gt hDlt
      have new : ObjOk X.prog X.w (upd (upd H D (.tup (out i))) s₁.heap.objs.size (.tup [.int (i : Nat), .ref D])) h'' s₁.heap.objs.size (.tup [.int (i : Nat), .ref D]) :=
        ⟨by show 2 ≤ sizeLine; decide, [.int i s₁.toks, .ref D], .cons ⟨_, rfl⟩ (.cons rfl .nil), ⟨_, hT2, rfl, _, rfl⟩⟩
      have eD : e ≠ D := fun z => by
        have q : s.heap.get? e = none := by rw [z]; exact hDs
        rw [he] at q; cases q
      have fe2 : FpOk X pins (upd H D (.tup (out i))) e := ⟨by rw [upd_ne eD]; exact fe.1, fe.2⟩
      have I3 : Inv X pins σ (upd (upd H D (.tup (out i))) s₁.heap.objs.size (.tup [.int (i : Nat), .ref D])) { s₁.setGen g (.suspended k' l' c' p' fs' cl) with heap := h'', toks := (s₁.setGen g (.suspended k' l' c' p' fs' cl)).toks + 1 } :=
        Inv.turnedNew (ch := [e]) I2 (fun bb o hb q => (sb.2 bb (fun z => hb (by simp [z]))).trans (hk bb o (fun z => hb (by simp [z])) q)) (fun bb hb => by rw [List.mem_singleton.mp hb]; exact fe2) (Nat.le_refl _) new
      have there : ∀ bb ∈ [L, e2, it2], ∃ o, s₁.heap.get? bb = some o ∧ h''.get? bb = some o ∧ ∀ v, o.data ≠ .cell v := fun bb hb => by
        obtain ⟨o, ho, hcell⟩ := hobj bb hb
        have hbe : bb ≠ e := (own bb hb).1
        exact ⟨o, ho, (sb.2 bb hbe).trans (hk bb o hbe ho), hcell⟩
      have ecast : ∀ {old' : Value}, IsEnum h'' e a ((i : Int) + 1) old' → IsEnum h'' e a ((i + 1 : Nat) : Int) old' := fun {old'} z => by
        have e1 : ((i + 1 : Nat) : Int) = (i : Int) + 1 := by omega
        rw [e1]; exact z
      have tn' : tnG X N qual scope f cd L ca b xs out (gbody elts kk tpos x0 npos epos cpos eY yp yq fpos) e a g (i + 1) [e, a, L, e2, it2] { s₁.setGen g (.suspended k' l' c' p' fs' cl) with heap := h'', toks := (s₁.setGen g (.suspended k' l' c' p' fs' cl)).toks + 1 } := by
        refine ⟨e2, it2, k', l', c', p', fs', cl, s₁, rfl, ⟨_, ecast he''⟩, ?_, ?_, hcl, there, hea, fun bb hb => ⟨(own bb hb).1, (own bb hb).2.1, (own bb hb).2.2.1⟩, fun s₂ hl => ?_⟩
        · obtain ⟨o, nm, qn, ho, r⟩ := hg1
          exact ⟨o, nm, qn, (sb.2 a (Ne.symm hea)).trans (hk a o (Ne.symm hea) ho), r⟩
        · show (s₁.gens.setIfInBounds g _)[g]? = _
          rw [Array.getElem?_setIfInBounds_self_of_lt hgsz]
        · have e1 : xs.length - (i + 1) = m := by omega
          rw [e1]
          exact hkap s₂ hl
      have old_fp : ∀ bb, FpOk X pins H bb → bb ≠ D → bb < s₁.heap.objs.size → FpOk X pins (upd (upd H D (.tup (out i))) s₁.heap.objs.size (.tup [.int (i : Nat), .ref D])) bb := fun bb fb h1 h2 =>
        ⟨by rw [upd_ne (Nat.ne_of_lt h2), upd_ne h1]; exact fb.1, fb.2⟩
      refine ⟨.ref s₁.heap.objs.size, _, [e, a, L, e2, it2], I3, rfl, ⟨D, s₁.heap.objs.size, rfl, hDn, ?_, hPD, rfl⟩, tn', fun bb hb => ?_⟩
      · have q := hPn
        rw [upd_ne hPD] at q; exact q
      · rcases List.mem_cons.mp hb with z | z
        · rw [z]; exact old_fp e fe eD hes
        · rcases List.mem_cons.mp z with z | z
          · have aD : a ≠ D := fun q => by
              obtain ⟨o, _, _, ho, _⟩ := hg
              rw [q, hDs] at ho; cases ho
            rw [z]
            exact old_fp a fa aD (by obtain ⟨o, _, _, ho, _⟩ := hg1; exact Heap.lt_size ho)
          · obtain ⟨o, ho, _⟩ := hobj bb z
            have bD : bb ≠ D := fun q => hDo (q ▸ z)
            rcases (own bb z).2.2.2.2 with ⟨_, hge⟩ | fb
            · exact I.fpOk hge (by rw [upd_ne (Nat.ne_of_lt (Heap.lt_size ho)), upd_ne bD]; exact (own bb z).2.2.2.1)
            · exact old_fp bb fb bD (Heap.lt_size ho)
    · intro hsz
      exact absurd hp.1 (Nat.succ_ne_zero m)
  done := fun i fp pins s σ H E I hf st hgo => by
    obtain ⟨hi, hq, hcH⟩ := hgo
    subst hi
    obtain ⟨e2, it2, gs, old, he, hg, hgs, hefp, hafp, hea, own, goes⟩ := tn_wakes T G (I.ok.hd hc) hX hfs I hf st (Nat.le_refl _) hq hcH
    rw [Nat.sub_self] at goes
    have gone : ∀ bb ∈ [L, e2, it2], s.heap.get? bb = none ∨ FpOk X pins H bb := fun bb hb => (own bb hb).2.2.2.2.imp And.left id
    have away : ∀ bb ∈ [L, e2, it2], X.s_0.heap.objs.size ≤ bb ∧ bb ≠ X.env.locals ∧ (∀ x c, X.env.cells.lookup x = some c → c ≠ bb) := fun bb hb =>
      ⟨Nat.le_trans hX (own bb hb).2.2.1, Nat.ne_of_gt (Nat.lt_of_lt_of_le hLl.1 (own bb hb).2.2.1), fun x c hxc => Nat.ne_of_lt (Nat.lt_of_lt_of_le (hLl.2 x c hxc) (own bb hb).2.2.1)⟩
    refine pyNext_enum_some he (nextOf_genS (A := X.A.in1) (I.ok.hd hc) I.nolimit hro hg hgs goes (fun v s₁ k' l' c' p' fs' cl hcl hv => ?_) (fun s₁ hp h' ex hk hex => ?_))
    · exfalso
      obtain ⟨hS, ⟨D, its, rfl, hD, hDo, hlen, rv, ht⟩, hobj, hkap⟩ := hv
      have hS' : Step X [L, e2, it2] s s₁ := ⟨hS.os, hS.bare, hS.keep, hS.slot⟩
      have hDs : s.heap.get? D = none := hD
      obtain ⟨hDn, I1⟩ := inv_step I hS' gone (fun bb hb => (own bb hb).2.2.2.1) away hDs hlen rv ht
      obtain ⟨u, hu⟩ := hcH
      have hcD : ca ≠ D := ne_of_none hu hDn
      refine hkap s₁ ⟨fun _ _ _ z => z, pins, σ, _, I1, ⟨u, by rw [upd_ne hcD]; exact hu⟩, sqX_upd hDn hq, fun bb hb => ?_⟩
      rw [upd_ne (fun z : bb = D => hDo (z ▸ hb))]
      exact (own bb hb).2.2.2.1
    · obtain ⟨_, hS⟩ := hp
      have hS' : Step X [L, e2, it2] s s₁ := ⟨hS.os, hS.bare, hS.keep, hS.slot⟩
      have I1 := inv_step0 I hS' gone (fun bb hb => (own bb hb).2.2.2.1) away
      have I2 : Inv X pins σ H (s₁.setGen g .finished) := Inv_gens I1 (allBare_setGen hS'.bare rfl)
      obtain ⟨o, ho, hco⟩ := hex
      exact ⟨ex, o, rfl, ho, hco, rfl, I2.kept (t' := (s₁.setGen g .finished).toks) hk⟩
end
end Gx

/-! Gx9: enumerate(g(x)) in a for's head. -/
namespace Gx
open PySem PySem.Spec PyProof.Rows L2 GenW

section
variable {X : Cx} {N : List Str} {name qual : Str} {params : Arguments} {scope : Scope} {f : Addr} {dV kV doc pm cdv ct oc : Value} {an od : Option Addr} {osl : Array (Option Value)} {body : List Stmt} {x0 : Str}
theorem call_gen {pins : List (Addr × Obj)} {σ : L2.St} {H : Hp} {s : Shared} {ca : Addr} {Q : Value → Shared → Prop} {E : Value → Shared → Prop} (I : Inv X pins σ H s)
    (lk : X.K.lookup f = some ⟨oc, od, .func (PySem.W.fnOf name qual params body scope dV kV doc pm an cdv ct), osl⟩) (hcd : PySem.W.codeIn X.K cdv qual = true) (S : GNames N scope) (hgen : scope.isGenerator = true) (hco : scope.isCoroutine = false)
    (hb : Binds X.K (PySem.W.fnOf name qual params body scope dV kV doc pm an cdv ct) [x0] []) (hro : X.A.depth < recursionLimit) (at0 : N[0]? = some x0)
    (hQ : ∀ s' a g, Inv X pins σ H s' → s.heap.objs.size < a → a < s'.heap.objs.size → s'.heap.IsGen a g → s'.gens[g]? = some (.fresh (.func body (envOfC qual scope s.heap.objs.size f cdv))) →
      LocAt s'.heap s.heap.objs.size N [some (.ref ca), none, none] → Q (.ref a) s') : wpAny (model X.prog X.w) X.A (call (.ref f) [.ref ca]) Q E s := by
  have lim : s.heap.NoLimit := I.nolimit
  have h0 : scope.names.lookup x0 = some .local := S.loc x0 (List.mem_of_getElem? at0)
  have hkind : ∀ y ∈ [x0].zip [Value.ref ca], scope.names.lookup y.1 = some .local ∨ (scope.names.lookup y.1 = some .cell ∧ ((PySem.cellsFrom (s.heap.objs.size + 1) scope.names []).lookup y.1).isSome = true) := fun y hy => by
    have e : y = (x0, Value.ref ca) := by simpa using hy
    rw [e]; exact .inl h0
  refine wpAny_call (codeAny_call_generator hro (I.kIn _ _ lk) rfl hco hgen rfl (PySem.W.codeRec_of I.kIn hcd) (hb s [.ref ca] I.kIn rfl _ _ _ _ ?_))
  refine wpAny_newFunctionEnv_cells S.kind hkind fun env he s1 x => ?_
  subst he
  have lim1 : s1.heap.NoLimit := lim.keeps x.toInCall.keep
  refine ⟨lim1, ?_⟩
  obtain ⟨h1, tk, es1, hk1⟩ := x.done
  subst es1
  have lt1 : s.heap.objs.size < h1.objs.size := x.toInCall.ns.lt
  have kk : ∀ b o, s.heap.get? b = some o → (h1.push { cls := .type "generator", data := .fields #[.int s.gens.size 0, .str name tk, .str qual (tk + 1)] }).get? b = some o := fun b o e => Heap.get?_push_of_some _ (hk1 b o e)
  have I1 : Inv X pins σ H { s with heap := h1.push { cls := .type "generator", data := .fields #[.int s.gens.size 0, .str name tk, .str qual (tk + 1)] }, toks := tk + 1 + 1 } := I.kept kk
  have I2 : Inv X pins σ H { s with heap := h1.push { cls := .type "generator", data := .fields #[.int s.gens.size 0, .str name tk, .str qual (tk + 1)] }, toks := tk + 1 + 1, gens := s.gens.push (.fresh (.func body (envOfC qual scope s.heap.objs.size f cdv))) } :=
    Inv_gens I1 (AllBare.push I.bare rfl)
  refine hQ _ _ s.gens.size I2 lt1 ?_ ⟨_, _, _, Heap.get?_push_size _ rfl, rfl, rfl, rfl⟩ (Array.getElem?_push_size ..) ?_
  · show h1.objs.size < (h1.push _).objs.size
    rw [Heap.size_push]; exact Nat.lt_succ_self _
  · refine ⟨_, (x.toInCall.ns).push _, fun i y v e1 e2 => ?_⟩
    match i, e2 with
    | 0, e2 =>
      have ey : y = x0 := Option.some.inj (e1.symm.trans at0)
      subst ey
      have ev : V.ref ca = v := Option.some.inj (Option.some.inj e2)
      subst ev
      exact ⟨.ref ca, rfl, bindL_get (P := [y]) (vs := [.ref ca]) (i := 0) (by simp) rfl rfl h0⟩
    | 1, e2 => cases e2
    | 2, e2 => cases e2
    | n + 3, e2 => cases e2

def iGenX (b : Bool) (K : PySem.W.Frag) (out : List V → Nat → List V) (te : TE) : TI := fun σ H R => te σ H fun x H1 => ∃ ca xs, x = .ref ca ∧ SqX b K H1 ca xs ∧ (∃ u, H1 ca = some u) ∧ R (Itg b K ca xs (out xs)) H1
theorem pig_gen {elts telts : List Expr} {kk tk : Nat} {tpos ttp yp yq fpos cpos npos epos pe pg pos pos2 : Pos} {eY e : Expr} {te : TE} {gname : Str} {b : Bool} {out : List V → Nat → List V}
    (lk : X.K.lookup f = some ⟨oc, od, .func (PySem.W.fnOf name qual params body scope dV kV doc pm an cdv ct), osl⟩) (hcd : PySem.W.codeIn X.K cdv qual = true) (hbody : body = gbody elts kk tpos x0 npos epos cpos eY yp yq fpos)
    (T : ∀ ca xs, GText X N qual scope f cdv b ca xs (out xs) elts kk tpos eY) (G : GHead X N scope x0) (hgen : scope.isGenerator = true)
    (hb : Binds X.K (PySem.W.fnOf name qual params body scope dV kV doc pm an cdv ct) [x0] []) (hro : X.A.depth < recursionLimit) (hc : X.calm = true)
    (hg : Gl X gname) (hm : X.mg gname = some (.ref f)) (hk : PySem.W.keepIn X.K (.ref f) = true) (hge : Gl X "enumerate") (he : PE X e te)
    (hdb : (gname == ("__debug__" : Str)) = false := by decide) (hs1 : starEach [e] X.env = (false, eval e X.env) :: starEach [] X.env := by rfl)
    (hs2 : starEach [.Call (.Name gname pg) [e] [] pos2] X.env = (false, eval (.Call (.Name gname pg) [e] [] pos2) X.env) :: starEach [] X.env := by rfl) :
    PIG X (.Tuple telts tk ttp) (.Call (.Name "enumerate" pe) [.Call (.Name gname pg) [e] [] pos2] [] pos) (iGenX b X.K out te) := by
  subst hbody
  refine ⟨fun pins s σ H R I h => ?_⟩
  refine Call_ (ld_blt I hge G.mg boot_enumerate (PyProof.Rows.callWith_type1 ?_ hs2 rfl))
  rw [hs2]
  show wpAny _ _ (spliced ((false, eval (.Call (.Name gname pg) [e] [] pos2) X.env) :: backTo pos (starEach [] X.env))) _ _ s
  refine Calls.spliced_cons (wpAny_Call_Name_kw (ld_glob I hg hm ?_ hdb))
  refine PySem.W.callWith_K (h₀ := X.base) I.ok.mod.kin hk ?_ hs1 rfl
  rw [hs1]
  show wpAny _ _ (spliced ((false, eval e X.env) :: backTo pos2 (starEach [] X.env))) _ _ s
  refine Calls.spliced_cons (thn (he.run pins s σ H _ I h) fun v s1 ⟨x, H1, I1, r1, ca, xs, ex, hq, hcH, hR⟩ => ?_)
  subst ex
  obtain rfl : v = Value.ref ca := r1
  refine Calls.spliced_nil ⟨I1.kIn, ?_⟩
  refine call_gen (x0 := x0) I1 lk hcd (T ca xs).S hgen (T ca xs).co hb hro G.at0 fun s' a g I2 hLa hal hgn hgs hloc => ?_
  refine Calls.spliced_nil ?_
  refine call_enum_gen hgn ?_
  have hen : IsEnum (s'.heap.push (enumObj a 0 .none)) s'.heap.objs.size a 0 .none := Heap.get?_push_size _ rfl
  refine wpAny_pyIter_enum (s := { s' with heap := s'.heap.push (enumObj a 0 .none) }) hen ?_
  have I3 : Inv X pins σ H1 { s' with heap := s'.heap.push (enumObj a 0 .none) } := I2.kept (t' := s'.toks) fun b o e => Heap.get?_push_of_some _ e
  have hfs : ∀ bb ∈ frs X.stack, bb < s1.heap.objs.size := fun bb hb => by
    obtain ⟨_, o, ho, _⟩ := I1.stack.mem hb
    exact Heap.lt_size ho
  have young : ∀ bb, s1.heap.objs.size ≤ bb → FpOk X pins H1 bb := fun bb h1 => I1.fpOk h1 (I1.hok.fresh h1)
  refine ⟨s'.heap.objs.size, g, [s'.heap.objs.size, a, s1.heap.objs.size], _, _, H1, rfl, I3,
    turn_gen (N := N) (L := s1.heap.objs.size) (a := a) (x0 := x0) (yp := yp) (yq := yq) (fpos := fpos) (cpos := cpos) (npos := npos) (epos := epos) (T ca xs) G hc I1.sz hfs hro ⟨I1.lt, fun x c hx => ?_⟩, ?_, fun bb hb => ?_, hR⟩
  · obtain ⟨v, o, ho, _⟩ := I1.cell x c hx
    exact Heap.lt_size ho
  · refine ⟨rfl, hen, ?_, hgs, hloc.keeps fun o e => Heap.get?_push_of_some _ e, by omega, by omega, by omega⟩
    obtain ⟨o, nm, qn, ho, r⟩ := hgn
    exact ⟨o, nm, qn, Heap.get?_push_of_some _ ho, r⟩
  · rcases List.mem_cons.mp hb with z | z
    · rw [z]; exact young _ (by omega)
    · rcases List.mem_cons.mp z with z | z
      · rw [z]; exact young _ (by omega)
      · rw [List.mem_singleton.mp z]; exact young _ (Nat.le_refl _)
end
end Gx

/-! D0: the text by places, short words. -/
namespace Lat
open PySem PySem.Spec PyProof.Rows L2 Geo
def top (i : Nat) : Stmt := PySem.Challenge.pw_latticeshapes_k31_whole_least_widths_of.main.body.getD i (.Pass ⟨0, 0, 0, 0⟩)

/-! ### a def by its name -/
structure Cal (P : Program) (w : World) (K : PySem.W.Frag) (mg : Str → Option Value) (base : Heap) (k : Nat) (x : Str) (ps : List Str) (sp : Sp) : Prop where
  ex : ∃ f fd, FnOk P w K mg base CX0 k f fd ps sp ∧ mg x = some (.ref f) ∧ PySem.W.keepIn K (.ref f) = true ∧ Binds K fd ps []
section
variable {X : Cx} {k : Nat} {x : Str} {p pos : Pos} {e : Expr} {es : List Expr} {t : TA} {ps : List Str} {sp : Sp}
theorem pe_cal (C : Cal X.prog X.w X.K X.mg X.base k x ps sp) (hr : Room k X.A) (hg : Gl X x) (ha : PA X (e :: es) t) (hdb : (x == ("__debug__" : Str)) = false := by decide)
    (he : starEach (e :: es) X.env = (false, eval e X.env) :: starEach es X.env := by rfl) (hpl : (backTo pos (starEach es X.env)).any (·.1) = false := by rfl) : PE X (.Call (.Name x p) (e :: es) [] pos) (tCall sp [] E0 t) := by
  obtain ⟨f, fd, F, hm, hk, hb⟩ := C.ex
  exact pe_call F hr hg hm hk hb .nil pass0 ha hdb he hpl
theorem Cal.mono {P : Program} {w : World} {K : PySem.W.Frag} {mg : Str → Option Value} {base : Heap} {j k : Nat} {x : Str} {ps : List Str} {sp : Sp} (C : Cal P w K mg base j x ps sp) (h : j ≤ k) : Cal P w K mg base k x ps sp := by
  obtain ⟨f, fd, F, r⟩ := C.ex
  exact ⟨f, fd, F.mono h, r⟩
end
/-! ### points in the heap -/
/-- v is a tuple of two ints -/
def TP (H : Hp) (v : V) (p : Pt) : Prop := ∃ t, v = .ref t ∧ H t = some (.tup [.int p.1, .int p.2])
/-- tuples stay -/
def Keep (H H' : Hp) : Prop := ∀ t xs, H t = some (.tup xs) → H' t = some (.tup xs)
theorem Keep.refl {H : Hp} : Keep H H := fun _ _ h => h
theorem Keep.trans {H H1 H2 : Hp} (a : Keep H H1) (b : Keep H1 H2) : Keep H H2 := fun t xs h => b t xs (a t xs h)
theorem Keep.of {H H' : Hp} (s : Same H H') : Keep H H' := fun t xs h => s t _ h
theorem Keep.new {H : Hp} {a : Addr} {o : HO} (n : H a = none) : Keep H (upd H a o) := fun t xs h => by rw [upd_ne (ne_of_none h n)]; exact h
theorem Keep.lst {H : Hp} {a : Addr} {o : HO} {xs : List V} (n : H a = some (.lst xs)) : Keep H (upd H a o) := fun t ys h => by rw [upd_ne (ne_of h n (fun z => nomatch z))]; exact h
theorem Keep.ins {H : Hp} {a C dx : Addr} {o : HO} {fs : List (Str × V)} (n : H a = some (.ins C dx fs)) : Keep H (upd H a o) := fun t ys h => by rw [upd_ne (ne_of h n (fun z => nomatch z))]; exact h
theorem TP.keep {H H' : Hp} {v : V} {p : Pt} (h : TP H v p) (k : Keep H H') : TP H' v p := let ⟨t, e, q⟩ := h; ⟨t, e, k t _ q⟩
theorem Same.new {H : Hp} {a : Addr} {o : HO} (n : H a = none) : Same H (upd H a o) := fun b x e => by rw [upd_ne (ne_of_none e n)]; exact e
theorem Same.over {H H' : Hp} {a : Addr} {o : HO} (s : Same H H') (n : H a = none) : Same H (upd H' a o) := fun b x e => by rw [upd_ne (ne_of_none e n)]; exact s b x e
/-- a list's items are points -/
inductive TPs (H : Hp) : List V → List Pt → Prop
  | nil : TPs H [] []
  | cons {v p vs ps} : TP H v p → TPs H vs ps → TPs H (v :: vs) (p :: ps)
section
variable {H H' : Hp}
theorem TPs.keep (k : Keep H H') : ∀ {vs ps}, TPs H vs ps → TPs H' vs ps
  | _, _, .nil => .nil
  | _, _, .cons a b => .cons (a.keep k) (TPs.keep k b)
theorem TPs.len : ∀ {vs ps}, TPs H vs ps → vs.length = ps.length
  | _, _, .nil => rfl
  | _, _, .cons a b => by simp [TPs.len b]
theorem TPs.get : ∀ {vs ps} {i : Nat}, TPs H vs ps → i < ps.length → ∃ v, vs[i]? = some v ∧ TP H v (at' ps i)
  | _, _, _, .nil, h => by simp at h
  | _, _, 0, .cons a b, _ => ⟨_, rfl, a⟩
  | _, _, i + 1, .cons a b, h => by
    obtain ⟨v, e, q⟩ := TPs.get (i := i) b (by simpa using h)
    exact ⟨v, by simpa using e, q⟩
theorem TPs.at {vs ps} {i : Nat} {v : V} (h : TPs H vs ps) (e : vs[i]? = some v) : i < ps.length ∧ TP H v (at' ps i) := by
  have hl : i < ps.length := by rw [← h.len]; exact (List.getElem?_eq_some_iff.mp e).1
  obtain ⟨v', e', q⟩ := h.get hl
  rw [e] at e'
  cases e'
  exact ⟨hl, q⟩
theorem TPs.app : ∀ {vs ps vs' ps'}, TPs H vs ps → TPs H vs' ps' → TPs H (vs ++ vs') (ps ++ ps')
  | _, _, _, _, .nil, h => h
  | _, _, _, _, .cons a b, h => .cons a (TPs.app b h)
theorem TPs.snoc {vs ps v p} (h : TPs H vs ps) (q : TP H v p) : TPs H (vs ++ [v]) (ps ++ [p]) := h.app (.cons q .nil)
theorem TPs.take : ∀ {vs ps} (n : Nat), TPs H vs ps → TPs H (vs.take n) (ps.take n)
  | _, _, 0, _ => by simp only [List.take_zero]; exact .nil
  | _, _, _ + 1, .nil => .nil
  | _, _, n + 1, .cons a b => .cons a (TPs.take n b)
theorem TPs.drop : ∀ {vs ps} (n : Nat), TPs H vs ps → TPs H (vs.drop n) (ps.drop n)
  | _, _, 0, h => h
  | _, _, _ + 1, .nil => .nil
  | _, _, n + 1, .cons _ b => TPs.drop n b
theorem TPs.dropLast {vs ps} (h : TPs H vs ps) : TPs H vs.dropLast ps.dropLast := by
  rw [List.dropLast_eq_take, List.dropLast_eq_take, h.len]
  exact h.take _
theorem TPs.rev : ∀ {vs ps}, TPs H vs ps → TPs H vs.reverse ps.reverse
  | _, _, .nil => .nil
  | _, _, .cons a b => by
    rw [List.reverse_cons, List.reverse_cons]
    exact (TPs.rev b).snoc a
end
theorem at_get {ps : List Pt} {i : Nat} (h : i < ps.length) : ps[i]? = some (at' ps i) := by rw [at_eq h]; exact List.getElem?_eq_getElem h
theorem drop_at {ps : List Pt} (n i : Nat) : at' (ps.drop n) i = at' ps (n + i) := by unfold at'; simp [List.getD, List.getElem?_drop]
/-- 2 ^ 64 is far -/
theorem far {i : Int} (h1 : -1000000000 ≤ i) (h2 : i ≤ 1000000000) : -(2 ^ 64) < i ∧ i < 2 ^ 64 := by
  have e : (2 : Int) ^ 64 = 18446744073709551616 := by decide
  rw [e]; omega
theorem smallLine {n : Nat} (h : n ≤ 100000) : n < sizeLine := Nat.lt_of_le_of_lt h (by rw [sizeLine_eq]; decide)
theorem smallLe {n : Nat} (h : n ≤ 100000) : n ≤ sizeLine := Nat.le_of_lt (smallLine h)
/-- a bound on both coordinates -/
def Bd (B : Int) (p : Pt) : Prop := -B ≤ p.1 ∧ p.1 ≤ B ∧ -B ≤ p.2 ∧ p.2 ≤ B
end Lat

/-! D1: numbers and points. -/
namespace Lat
open PySem PySem.Spec PyProof.Rows L2 Geo
abbrev sIsInt : Stmt := top 8
abbrev sGcd : Stmt := top 9
abbrev sIsPoint : Stmt := top 11
abbrev sChkDir : Stmt := top 12
abbrev sCross : Stmt := top 13
abbrev sDot : Stmt := top 14
abbrev sDiff : Stmt := top 15
abbrev sTurn : Stmt := top 16
abbrev sContent : Stmt := top 17
section
variable {P : Program} {w : World} {K : PySem.W.Frag} {mg : Str → Option Value} {base : Heap}
theorem scCross : FnScope ["first", "second"] ["first", "second"] (defScope sCross) := ⟨rfl, rfl, rfl, by decide +kernel, rfl, by decide +kernel, by decide +kernel⟩
def spCross : Sp := fun vs H Q _ => ∃ v u p q, vs = [v, u] ∧ TP H v p ∧ TP H u q ∧ Bd 1000000000 p ∧ Q (.int (cr p q)) H
theorem ok_cross {f : Addr} {fd : FuncData} (F : Fun K "cross_of" "cross_of" sCross f fd) : FnOk P w K mg base CX0 1 f fd ["first", "second"] spCross := by
  refine F.ok scCross (fun vs H Q E h => ?_) (fun cdv A outer s H vs Q E hr h => ?_)
  · obtain ⟨v, u, p, q, rfl, _⟩ := h; rfl
  · obtain ⟨v, u, p, q, rfl, ⟨t, rfl, ht⟩, ⟨t', rfl, ht'⟩, ⟨b1, b2, b3, b4⟩, k⟩ := h
    refine ⟨_, pss_one (ps_ret (pe_op op_sub (pe_op op_mul (pe_ix ix_tup (pv 0) pe_int (fun _ _ => rfl)) (pe_ix ix_tup (pv 1) pe_int (fun _ _ => rfl)))
      (pe_op op_mul (pe_ix ix_tup (pv 0) pe_int (fun _ _ => rfl)) (pe_ix ix_tup (pv 1) pe_int (fun _ _ => rfl))))), ?_⟩
    refine ⟨_, rfl, t, _, 0, _, rfl, rfl, SqT.of ht, atI_nat (j := 0) rfl, _, rfl, t', _, 1, _, rfl, rfl, SqT.of ht', atI_nat (j := 1) rfl, _, _, rfl, rfl, .inl (far b1 b2), ?_⟩
    exact ⟨_, rfl, t, _, 1, _, rfl, rfl, SqT.of ht, atI_nat (j := 1) rfl, _, rfl, t', _, 0, _, rfl, rfl, SqT.of ht', atI_nat (j := 0) rfl, _, _, rfl, rfl, .inl (far b3 b4), _, _, rfl, rfl, k⟩
theorem scDot : FnScope ["first", "second"] ["first", "second"] (defScope sDot) := ⟨rfl, rfl, rfl, by decide +kernel, rfl, by decide +kernel, by decide +kernel⟩
def spDot : Sp := fun vs H Q _ => ∃ v u p q, vs = [v, u] ∧ TP H v p ∧ TP H u q ∧ Bd 1000000000 p ∧ Q (.int (dt p q)) H
theorem ok_dot {f : Addr} {fd : FuncData} (F : Fun K "dot_of" "dot_of" sDot f fd) : FnOk P w K mg base CX0 1 f fd ["first", "second"] spDot := by
  refine F.ok scDot (fun vs H Q E h => ?_) (fun cdv A outer s H vs Q E hr h => ?_)
  · obtain ⟨v, u, p, q, rfl, _⟩ := h; rfl
  · obtain ⟨v, u, p, q, rfl, ⟨t, rfl, ht⟩, ⟨t', rfl, ht'⟩, ⟨b1, b2, b3, b4⟩, k⟩ := h
    refine ⟨_, pss_one (ps_ret (pe_op op_add (pe_op op_mul (pe_ix ix_tup (pv 0) pe_int (fun _ _ => rfl)) (pe_ix ix_tup (pv 1) pe_int (fun _ _ => rfl)))
      (pe_op op_mul (pe_ix ix_tup (pv 0) pe_int (fun _ _ => rfl)) (pe_ix ix_tup (pv 1) pe_int (fun _ _ => rfl))))), ?_⟩
    refine ⟨_, rfl, t, _, 0, _, rfl, rfl, SqT.of ht, atI_nat (j := 0) rfl, _, rfl, t', _, 0, _, rfl, rfl, SqT.of ht', atI_nat (j := 0) rfl, _, _, rfl, rfl, .inl (far b1 b2), ?_⟩
    exact ⟨_, rfl, t, _, 1, _, rfl, rfl, SqT.of ht, atI_nat (j := 1) rfl, _, rfl, t', _, 1, _, rfl, rfl, SqT.of ht', atI_nat (j := 1) rfl, _, _, rfl, rfl, .inl (far b3 b4), _, _, rfl, rfl, k⟩
theorem scDiff : FnScope ["end", "start"] ["end", "start"] (defScope sDiff) := ⟨rfl, rfl, rfl, by decide +kernel, rfl, by decide +kernel, by decide +kernel⟩
def spDiff : Sp := fun vs H Q _ => ∃ v u p q, vs = [v, u] ∧ TP H v p ∧ TP H u q ∧ ∀ t, H t = none → Q (.ref t) (upd H t (.tup [.int (sb p q).1, .int (sb p q).2]))
theorem ok_diff {f : Addr} {fd : FuncData} (F : Fun K "difference" "difference" sDiff f fd) : FnOk P w K mg base CX0 1 f fd ["end", "start"] spDiff := by
  refine F.ok scDiff (fun vs H Q E h => ?_) (fun cdv A outer s H vs Q E hr h => ?_)
  · obtain ⟨v, u, p, q, rfl, _⟩ := h; rfl
  · obtain ⟨v, u, p, q, rfl, ⟨t, rfl, ht⟩, ⟨t', rfl, ht'⟩, k⟩ := h
    refine ⟨_, pss_one (ps_ret (pe_tup (pa_cons (pe_op op_sub (pe_ix ix_tup (pv 0) pe_int (fun _ _ => rfl)) (pe_ix ix_tup (pv 1) pe_int (fun _ _ => rfl)))
      (pa_cons (pe_op op_sub (pe_ix ix_tup (pv 0) pe_int (fun _ _ => rfl)) (pe_ix ix_tup (pv 1) pe_int (fun _ _ => rfl))) pa_nil)))), ?_⟩
    refine ⟨_, rfl, t, _, 0, _, rfl, rfl, SqT.of ht, atI_nat (j := 0) rfl, _, rfl, t', _, 0, _, rfl, rfl, SqT.of ht', atI_nat (j := 0) rfl, _, _, rfl, rfl, ?_⟩
    refine ⟨_, rfl, t, _, 1, _, rfl, rfl, SqT.of ht, atI_nat (j := 1) rfl, _, rfl, t', _, 1, _, rfl, rfl, SqT.of ht', atI_nat (j := 1) rfl, _, _, rfl, rfl, ?_⟩
    exact ⟨by show 2 ≤ sizeLine; decide, fun d hd => k d hd⟩
theorem scTurn : FnScope ["first", "second", "third"] ["first", "second", "third"] (defScope sTurn) := ⟨rfl, rfl, rfl, by decide +kernel, rfl, by decide +kernel, by decide +kernel⟩
def spTurn : Sp := fun vs H Q _ => ∃ v u x p q r, vs = [v, u, x] ∧ TP H v p ∧ TP H u q ∧ TP H x r ∧ Bd 100000 p ∧ Bd 100000 q ∧ ∀ H', Same H H' → Q (.int (turn p q r)) H'
theorem ok_turn {f : Addr} {fd : FuncData} (F : Fun K "turn_of" "turn_of" sTurn f fd) (C1 : Cal P w K mg base 1 "cross_of" ["first", "second"] spCross) (C2 : Cal P w K mg base 1 "difference" ["end", "start"] spDiff) :
    FnOk P w K mg base CX0 2 f fd ["first", "second", "third"] spTurn := by
  refine F.ok scTurn (fun vs H Q E h => ?_) (fun cdv A outer s H vs Q E hr h => ?_)
  · obtain ⟨v, u, x, p, q, r, rfl, _⟩ := h; rfl
  · obtain ⟨v, u, x, p, q, r, rfl, hv, hu, hx, ⟨b1, b2, b3, b4⟩, ⟨c1, c2, c3, c4⟩, k⟩ := h
    refine ⟨_, pss_one (ps_ret (pe_cal C1 hr rfl (pa_cons (pe_cal C2 hr rfl (pa_cons (pv 1) (pa_cons (pv 0) pa_nil))) (pa_cons (pe_cal C2 hr rfl (pa_cons (pv 2) (pa_cons (pv 1) pa_nil))) pa_nil)))), ?_⟩
    refine ⟨_, rfl, _, rfl, u, v, q, p, rfl, hu, hv, fun t ht => ?_⟩
    have k1 : Keep H (upd H t (.tup [.int (sb q p).1, .int (sb q p).2])) := Keep.new ht
    refine ⟨_, rfl, _, rfl, x, u, r, q, rfl, hx.keep k1, hu.keep k1, fun t' ht' => ?_⟩
    have k2 := Keep.new (o := .tup [.int (sb r q).1, .int (sb r q).2]) ht'
    refine ⟨_, _, sb q p, sb r q, rfl, TP.keep ⟨t, rfl, upd_same⟩ k2, ⟨t', rfl, upd_same⟩, ?_, ?_⟩
    · unfold sb Bd; simp only; omega
    · rw [← turn_cr]
      exact k _ ((Same.new ht).trans (Same.new ht'))
theorem scIsInt : FnScope ["value"] ["value"] (defScope sIsInt) := ⟨rfl, rfl, rfl, by decide +kernel, rfl, by decide +kernel, by decide +kernel⟩
def spIsInt : Sp := fun vs H Q _ => ∃ i, vs = [.int i] ∧ Q (.bl true) H
theorem ok_isInt {f : Addr} {fd : FuncData} (F : Fun K "is_integer" "is_integer" sIsInt f fd) (m1 : mg "isinstance" = none) (m2 : mg "int" = none) (m3 : mg "bool" = none) : FnOk P w K mg base CX0 1 f fd ["value"] spIsInt := by
  refine F.ok scIsInt (fun vs H Q E h => ?_) (fun cdv A outer s H vs Q E hr h => ?_)
  · obtain ⟨i, rfl, _⟩ := h; rfl
  · obtain ⟨i, rfl, k⟩ := h
    refine ⟨_, pss_one (ps_ret (pe_and (pe_callB call_isi (by rfl) m1 (by decide +kernel) (pa_cons (pv 0) (pa_cons (pe_bltn (v := .ty "int") (by rfl) m2 (by decide +kernel) rfl) pa_nil)))
      (pe_one (pe_not (pe_callB call_isi (by rfl) m1 (by decide +kernel) (pa_cons (pv 0) (pa_cons (pe_bltn (v := .ty "bool") (by rfl) m3 (by decide +kernel) rfl) pa_nil))))))), ?_⟩
    refine ⟨_, rfl, .int i, .ty "int", .type "int", .type "int", true, rfl, .ty _, .base (.int i), kit_ty (by decide +kernel), true, rfl, iteT ?_⟩
    exact ⟨_, rfl, .int i, .ty "bool", .type "int", .type "bool", false, rfl, .ty _, .base (.int i), kit_ty (by decide +kernel), false, rfl, k⟩
end
end Lat

/-! D2: gcd, is_point, check_direction. -/
namespace Lat
open PySem PySem.Spec PyProof.Rows L2 Geo
section
variable {P : Program} {w : World} {K : PySem.W.Frag} {mg : Str → Option Value} {base : Heap}
theorem abs_val (i : Int) : (if i < 0 then -i else i) = ((i.natAbs : Nat) : Int) := by split <;> omega
theorem scGcd : FnScope ["first", "second"] ["first", "second"] (defScope sGcd) := ⟨rfl, rfl, rfl, by decide +kernel, rfl, by decide +kernel, by decide +kernel⟩
def spGcd : Sp := fun vs H Q _ => ∃ a b : Int, vs = [.int a, .int b] ∧ Q (.int (Int.gcd a b : Nat)) H
theorem ok_gcd {f : Addr} {fd : FuncData} (F : Fun K "common_divisor" "common_divisor" sGcd f fd) (m1 : mg "abs" = none) : FnOk P w K mg base CX0 1 f fd ["first", "second"] spGcd := by
  refine F.ok scGcd (fun vs H Q E h => ?_) (fun cdv A outer s H vs Q E hr h => ?_)
  · obtain ⟨a, b, rfl, _⟩ := h; rfl
  · obtain ⟨a, b, rfl, k⟩ := h
    refine ⟨_, pss_cons (ps_par (i := 0) (j := 1) (by rfl) scGcd.nd rfl rfl (by decide) rfl rfl (pa_cons (pe_callB call_abs (by rfl) m1 (by decide +kernel) (pa_cons (pv 0) pa_nil)) (pa_cons (pe_callB call_abs (by rfl) m1 (by decide +kernel) (pa_cons (pv 1) pa_nil)) pa_nil)) (by rfl))
      (pss_cons (ps_while PassesOwn.never (pt_truth (pv 1) (by intro _; rfl)) (pss_one (ps_par (i := 0) (j := 1) (by rfl) scGcd.nd rfl rfl (by decide) rfl rfl (pa_cons (pv 1) (pa_cons (pe_op op_modN (pv 0) (pv 1)) pa_nil)) (by rfl))))
      (pss_one (ps_ret (pv 0)))), ?_⟩
    refine ⟨_, rfl, _, rfl, _, rfl, _, rfl, _, _, rfl, ?_⟩
    rw [abs_val, abs_val]
    refine ⟨fun m σ H' => ∃ x y : Nat, σ = [some (.int x), some (.int y)] ∧ y = m ∧ H' = H ∧ Nat.gcd x y = Int.gcd a b, ⟨_, a.natAbs, b.natAbs, rfl, rfl, rfl, rfl⟩, ?_⟩
    rintro m σ H' ⟨x, y, rfl, rfl, rfl, hg⟩
    refine ⟨_, rfl, ((y : Int) != 0), rfl, ?_⟩
    by_cases hy : y = 0
    · subst hy
      rw [Nat.gcd_zero_right] at hg
      rw [← hg] at k
      exact ⟨_, rfl, k⟩
    · have e : ((y : Int) != 0) = true := by
        rw [bne_iff_ne]; omega
      rw [e]
      refine iteT ⟨fun σ' H'' => ∃ x' y' : Nat, σ' = [some (.int x'), some (.int y')] ∧ y' < y ∧ H'' = H' ∧ Nat.gcd x' y' = Int.gcd a b, fun σ' H'' ⟨x', y', e1, e2, e3, e4⟩ => ⟨y', e2, x', y', e1, rfl, e3, e4⟩, ?_⟩
      refine ⟨_, rfl, _, rfl, _, rfl, _, _, rfl, rfl, by omega, _, _, rfl, ?_⟩
      refine ⟨y, x % y, ?_, Nat.mod_lt _ (by omega), rfl, ?_⟩
      · show [some (V.int (y : Int)), some (V.int (Int.fmod (x : Int) (y : Int)))] = _
        rw [Int.fmod_eq_emod_of_nonneg _ (by omega)]
        rfl
      · rw [← hg, Nat.gcd_comm x y, Nat.gcd_rec y x, Nat.gcd_comm]
theorem scContent : FnScope ["point"] ["point"] (defScope sContent) := ⟨rfl, rfl, rfl, by decide +kernel, rfl, by decide +kernel, by decide +kernel⟩
def spContent : Sp := fun vs H Q _ => ∃ v p, vs = [v] ∧ TP H v p ∧ Q (.int (Int.gcd p.1 p.2 : Nat)) H
theorem ok_content {f : Addr} {fd : FuncData} (F : Fun K "content_of" "content_of" sContent f fd) (C : Cal P w K mg base 1 "common_divisor" ["first", "second"] spGcd) : FnOk P w K mg base CX0 2 f fd ["point"] spContent := by
  refine F.ok scContent (fun vs H Q E h => ?_) (fun cdv A outer s H vs Q E hr h => ?_)
  · obtain ⟨v, p, rfl, _⟩ := h; rfl
  · obtain ⟨v, p, rfl, ⟨t, rfl, ht⟩, k⟩ := h
    refine ⟨_, pss_one (ps_ret (pe_cal C hr rfl (pa_cons (pe_ix ix_tup (pv 0) pe_int (fun _ _ => rfl)) (pa_cons (pe_ix ix_tup (pv 0) pe_int (fun _ _ => rfl)) pa_nil)))), ?_⟩
    exact ⟨_, rfl, t, _, 0, _, rfl, rfl, SqT.of ht, atI_nat (j := 0) rfl, _, rfl, t, _, 1, _, rfl, rfl, SqT.of ht, atI_nat (j := 1) rfl, p.1, p.2, rfl, k⟩
theorem tyes {σ : L2.St} {H : Hp} {A B : Hp → Prop} (h : A H) : tYes σ H (fun b H3 => if b = true then A H3 else B H3) := by
  show if true = true then A H else B H
  exact iteT h
theorem scIsPoint : FnScope ["value", "item"] ["value"] (defScope sIsPoint) := ⟨rfl, rfl, rfl, by decide +kernel, rfl, by decide +kernel, by decide +kernel⟩
def spIsPoint : Sp := fun vs H Q _ => ∃ v p, vs = [v] ∧ TP H v p ∧ ∀ H', Same H H' → Q (.bl true) H'
theorem ok_isPoint {f : Addr} {fd : FuncData} (F : Fun K "is_point" "is_point" sIsPoint f fd) (C : Cal P w K mg base 1 "is_integer" ["value"] spIsInt) (m1 : mg "isinstance" = none) (m2 : mg "tuple" = none) (m3 : mg "len" = none) (m4 : mg "all" = none) :
    FnOk P w K mg base CX0 2 f fd ["value"] spIsPoint := by
  refine F.ok scIsPoint (fun vs H Q E h => ?_) (fun cdv A outer s H vs Q E hr h => ?_)
  · obtain ⟨v, p, rfl, _⟩ := h; rfl
  · obtain ⟨v, p, rfl, ⟨t, rfl, ht⟩, k⟩ := h
    refine ⟨_, pss_one (ps_ret (pe_and (pe_callB call_isi (by rfl) m1 (by decide +kernel) (pa_cons (pv 0) (pa_cons (pe_bltn (v := .ty "tuple") (by rfl) m2 (by decide +kernel) rfl) pa_nil)))
      (pe_and (pe_cmp (pc_eqI (pe_callB call_len_seq (by rfl) m3 PySem.boot_len (pa_cons (pv 0) pa_nil)) pe_int))
      (pe_one (pe_callB (cr_all rfl) (by rfl) m4 (by decide +kernel) (pa_cons
        (pe_lc (own := [("item", 1)]) (g := gName 1) (tt := tYes) rfl scIsPoint.nd (pi_tup (pv 0)) (blkOk_by (own := [("item", 1)]) (N := ["value", "item"]) (sc := defScope sIsPoint) (by decide +kernel))
          (fun _ _ _ _ _ => pg_name (i := 1) scIsPoint.nd rfl (Or.inl rfl)) (fun _ _ _ _ _ => pts_nil) (fun _ _ _ _ _ => pe_cal C hr rfl (pa_cons (pv 1) pa_nil))) pa_nil)))))), ?_⟩
    refine ⟨_, rfl, .ref t, .ty "tuple", .type "tuple", .type "tuple", true, rfl, .ty _, .base (.tup ht), kit_ty (by decide +kernel), true, rfl, iteT ?_⟩
    refine ⟨_, rfl, t, _, rfl, .inr (SqT.of ht), _, _, rfl, rfl, true, rfl, iteT ?_⟩
    refine ⟨_, rfl, t, rfl, ⟨_, SqT.of ht⟩, fun D hD => lc_tup (xs := [V.int p.1, V.int p.2]) (fun i H' => H' = upd H D (.lst (List.replicate i (.bl true)))) rfl (fun i H' _ e => ?_) (fun i x H' hx e => ?_) (fun H' e => ?_)⟩
    · subst e
      exact SqT.of (by rw [upd_ne (ne_of_none ht hD)]; exact ht)
    · subst e
      obtain ⟨n, rfl⟩ : ∃ n, x = .int n := by
        match i, hx with
        | 0, hx => exact ⟨_, (Option.some.inj hx).symm⟩
        | 1, hx => exact ⟨_, (Option.some.inj hx).symm⟩
      refine ⟨rfl, tyes ⟨_, rfl, n, rfl, _, upd_same, ?_, ?_⟩⟩
      · rw [List.length_replicate]
        have := (List.getElem?_eq_some_iff.mp hx).1
        exact smallLine (by simp at this; omega)
      · rw [upd_upd, ← List.replicate_succ']
    · subst e
      exact ⟨D, [true, true], rfl, SqL.of upd_same, k _ (Same.new hD)⟩
theorem dp_pt {H : Hp} {v : V} {p : Pt} (h : TP H v p) : Dp K H v (.tuple [.int p.1, .int p.2]) := by
  obtain ⟨t, rfl, ht⟩ := h
  exact .tup (SqT.of ht) (.cons (.int _) (.cons (.int _) .nil))
theorem eqv_pt {p q : Pt} : PyData.eqv (.tuple [.int p.1, .int p.2]) (.tuple [.int q.1, .int q.2]) = decide (p = q) := by
  obtain ⟨a, b⟩ := p
  obtain ⟨c, d⟩ := q
  simp only [PyData.eqv, PyData.eqvAll, Bool.and_true, Prod.mk.injEq, Bool.decide_and]
  rfl
theorem scChkDir : FnScope ["value"] ["value"] (defScope sChkDir) := ⟨rfl, rfl, rfl, by decide +kernel, rfl, by decide +kernel, by decide +kernel⟩
def spChkDir : Sp := fun vs H Q _ => ∃ v p, vs = [v] ∧ TP H v p ∧ p ≠ (0, 0) ∧ ∀ H', Same H H' → Q .non H'
theorem ok_chkDir {f : Addr} {fd : FuncData} (F : Fun K "check_direction" "check_direction" sChkDir f fd) (C : Cal P w K mg base 2 "is_point" ["value"] spIsPoint) : FnOk P w K mg base CX0 3 f fd ["value"] spChkDir := by
  refine F.ok scChkDir (fun vs H Q E h => ?_) (fun cdv A outer s H vs Q E hr h => ?_)
  · obtain ⟨v, p, rfl, _⟩ := h; rfl
  · obtain ⟨v, p, rfl, hv, hp, k⟩ := h
    refine ⟨_, pss_one (ps_if (PW.pt (pw_or (pt_not (pt_val (pe_cal C hr rfl (pa_cons (pv 0) pa_nil)))) (pw_or1 (pt_cmpR (op_eqD hr.units) (pv 0) (pe_tup (pa_cons pe_int (pa_cons pe_int pa_nil))) (nomark _))))) (pss_one ps_never) pss_nil), ?_⟩
    refine ⟨_, rfl, v, p, rfl, hv, fun H1 s1 => ⟨true, rfl, ?_⟩⟩
    obtain ⟨t, rfl, ht⟩ := hv
    refine iteF ⟨_, rfl, by show 2 ≤ sizeLine; decide, fun d hd => ?_⟩
    have kt : Keep H (upd H1 d (.tup [.int 0, .int 0])) := (Keep.of s1).trans (Keep.new hd)
    refine ⟨.tuple [.int p.1, .int p.2], .tuple [.int 0, .int 0], dp_pt ⟨t, rfl, kt t _ ht⟩, dp_pt (p := (0, 0)) ⟨d, rfl, upd_same⟩, rfl, rfl, false, ?_, iteF (k _ (Same.trans s1 (Same.new hd)))⟩
    rw [eqv_pt (q := (0, 0)), decide_eq_false hp]
end
end Lat

/-! D3: loops over enumerate, check_points, triples. -/
namespace Lat
open PySem PySem.Spec PyProof.Rows L2 Geo Gx
/-- a list (false) or a tuple (true) -/
def sqo (b : Bool) (vs : List V) : HO := match b with
  | true => .tup vs
  | false => .lst vs
theorem sqx {K : PySem.W.Frag} {b : Bool} {H : Hp} {a : Addr} {vs : List V} (h : H a = some (sqo b vs)) : SqX b K H a vs := by
  cases b
  · exact SqL.of h
  · exact SqT.of h
theorem sqx_any {K : PySem.W.Frag} {b : Bool} {H : Hp} {a : Addr} {vs : List V} (h : SqX b K H a vs) : SqL K H a vs ∨ SqT K H a vs := by
  cases b
  · exact .inl h
  · exact .inr h
theorem ixX {K : PySem.W.Frag} {b : Bool} {H : Hp} {a : Addr} {vs : List V} {i : Int} {v : V} {Q : VK} (h : SqX b K H a vs) (e : atI vs i = some v) (q : Q v H) : rIx K (.ref a) (.int i) H Q := by
  cases b
  · exact .inl ⟨a, vs, i, v, rfl, rfl, h, e, q⟩
  · exact .inr (.inl ⟨a, vs, i, v, rfl, rfl, h, e, q⟩)
section
variable {b : Bool} {K : PySem.W.Frag} {a : Addr} {xs : List V} {out : Nat → List V} {g : TG} {tb : TS} {D : Ends} {σ : L2.St} {H : Hp}
theorem for_en (Pv : Nat → L2.St → Hp → Prop) (h0 : Pv 0 σ H) (hl : ∀ i σ H, i ≤ xs.length → Pv i σ H → SqX b K H a xs)
    (hs : ∀ (i : Nat) (x : V) (T : Addr) (σ : L2.St) (H : Hp), xs[i]? = some x → Pv i σ H → H T = none → g (.ref T) σ (upd H T (.tup [.int (i : Nat), x])) fun σ2 H2 => tb { D with nx := Pv (i + 1), ct := Pv (i + 1), bk := D.nx } σ2 H2)
    (hd : ∀ σ H, Pv xs.length σ H → D.nx σ H) :
    ∃ W : Nat → Nat → L2.St → Hp → Prop, (∃ m, W 0 m σ H) ∧ ∀ i m σ H, W i m σ H →
      ((Iteq b K a).stop i H ∧ D.nx σ H) ∨ ((Iteq b K a).go i H ∧ ∃ N : L2.St → Hp → Prop, (∀ σ' H', N σ' H' → ∃ m', m' < m ∧ W (i + 1) m' σ' H') ∧ ∀ x H', (Iteq b K a).yld i H x H' → g x σ H' fun σ2 H2 => tb { D with nx := N, ct := N, bk := D.nx } σ2 H2) := by
  refine ⟨fun i m σ H => m = xs.length - i ∧ i ≤ xs.length ∧ Pv i σ H, ⟨xs.length, rfl, Nat.zero_le _, h0⟩, fun i m σ H ⟨em, hi, p⟩ => ?_⟩
  subst em
  have q := hl i σ H hi p
  rcases Nat.lt_or_ge i xs.length with hlt | hge
  · refine .inr ⟨⟨xs, xs[i], q, List.getElem?_eq_getElem hlt⟩, Pv (i + 1), fun σ' H' p' => ⟨xs.length - (i + 1), by omega, rfl, hlt, p'⟩, fun v H' y => ?_⟩
    obtain ⟨T, x, rfl, hT, rfl, f⟩ := y
    exact hs i x T σ H (f xs q) p hT
  · have e : i = xs.length := Nat.le_antisymm hi hge
    exact .inl ⟨⟨xs, q, hge⟩, hd σ H (e ▸ p)⟩
theorem for_ge (Pv : Nat → L2.St → Hp → Prop) (h0 : Pv 0 σ H) (hl : ∀ i σ H, i ≤ xs.length → Pv i σ H → SqX b K H a xs ∧ ∃ u, H a = some u)
    (hs : ∀ (i : Nat) (T Pp : Addr) (σ : L2.St) (H : Hp), i < xs.length → Pv i σ H → H T = none → H Pp = none → Pp ≠ T → g (.ref Pp) σ (upd (upd H T (.tup (out i))) Pp (.tup [.int (i : Nat), .ref T])) fun σ2 H2 => tb { D with nx := Pv (i + 1), ct := Pv (i + 1), bk := D.nx } σ2 H2)
    (hd : ∀ σ H, Pv xs.length σ H → D.nx σ H) :
    ∃ W : Nat → Nat → L2.St → Hp → Prop, (∃ m, W 0 m σ H) ∧ ∀ i m σ H, W i m σ H →
      ((Itg b K a xs out).stop i H ∧ D.nx σ H) ∨ ((Itg b K a xs out).go i H ∧ ∃ N : L2.St → Hp → Prop, (∀ σ' H', N σ' H' → ∃ m', m' < m ∧ W (i + 1) m' σ' H') ∧ ∀ x H', (Itg b K a xs out).yld i H x H' → g x σ H' fun σ2 H2 => tb { D with nx := N, ct := N, bk := D.nx } σ2 H2) := by
  refine ⟨fun i m σ H => m = xs.length - i ∧ i ≤ xs.length ∧ Pv i σ H, ⟨xs.length, rfl, Nat.zero_le _, h0⟩, fun i m σ H ⟨em, hi, p⟩ => ?_⟩
  subst em
  have q := hl i σ H hi p
  rcases Nat.lt_or_ge i xs.length with hlt | hge
  · refine .inr ⟨⟨hlt, q⟩, Pv (i + 1), fun σ' H' p' => ⟨xs.length - (i + 1), by omega, rfl, hlt, p'⟩, fun v H' y => ?_⟩
    obtain ⟨T, Pp, rfl, hT, hP, hne, rfl⟩ := y
    exact hs i T Pp σ H hlt p hT hP hne
  · have e : i = xs.length := Nat.le_antisymm hi hge
    exact .inl ⟨⟨e, q⟩, hd σ H (e ▸ p)⟩
theorem lc_en {tt : TT} {te : TE} {vs : List Nat} {σ : L2.St} {H1 : Hp} {D : Addr} {Qd : Hp → Prop} (Pv : Nat → Hp → Prop) (h0 : Pv 0 (upd H1 D (.lst []))) (hl : ∀ i H, i ≤ xs.length → Pv i H → SqX b K H a xs)
    (hs : ∀ (i : Nat) (x : V) (T : Addr) (H : Hp), xs[i]? = some x → Pv i H → H T = none → g (.ref T) (wipe σ vs) (upd H T (.tup [.int (i : Nat), x])) fun σ2 H2 => wipe σ2 vs = wipe σ vs ∧ tt σ2 H2 fun b H3 =>
      if b = true then te σ2 H3 fun y H4 => ∃ acc, H4 D = some (.lst acc) ∧ acc.length < sizeLine ∧ Pv (i + 1) (upd H4 D (.lst (acc ++ [y]))) else Pv (i + 1) H3) (hd : ∀ H, Pv xs.length H → Qd H) :
    ∃ W : Nat → Nat → Hp → Prop, (∃ m, W 0 m (upd H1 D (.lst []))) ∧ ∀ i m H, W i m H →
      ((Iteq b K a).stop i H ∧ Qd H) ∨ ((Iteq b K a).go i H ∧ ∃ Nx : Hp → Prop, (∀ H', Nx H' → ∃ m', m' < m ∧ W (i + 1) m' H') ∧ ∀ x H', (Iteq b K a).yld i H x H' → g x (wipe σ vs) H' fun σ2 H2 => wipe σ2 vs = wipe σ vs ∧ tt σ2 H2 fun b H3 =>
        if b = true then te σ2 H3 fun y H4 => ∃ acc, H4 D = some (.lst acc) ∧ acc.length < sizeLine ∧ Nx (upd H4 D (.lst (acc ++ [y]))) else Nx H3) := by
  refine ⟨fun i m H => m = xs.length - i ∧ i ≤ xs.length ∧ Pv i H, ⟨xs.length, rfl, Nat.zero_le _, h0⟩, fun i m H ⟨em, hi, p⟩ => ?_⟩
  subst em
  have q := hl i H hi p
  rcases Nat.lt_or_ge i xs.length with hlt | hge
  · refine .inr ⟨⟨xs, xs[i], q, List.getElem?_eq_getElem hlt⟩, Pv (i + 1), fun H' p' => ⟨xs.length - (i + 1), by omega, rfl, hlt, p'⟩, fun v H' y => ?_⟩
    obtain ⟨T, x, rfl, hT, rfl, f⟩ := y
    exact hs i x T H (f xs q) p hT
  · have e : i = xs.length := Nat.le_antisymm hi hge
    exact .inl ⟨⟨xs, q, hge⟩, hd H (e ▸ p)⟩
end
/-! ### check_points -/
abbrev sChkPts : Stmt := top 20
abbrev sTriples : Stmt := top 21
section
variable {P : Program} {w : World} {K : PySem.W.Frag} {mg : Str → Option Value} {base : Heap}
theorem scChkPts : FnScope ["value", "position", "item"] ["value"] (defScope sChkPts) := ⟨rfl, rfl, rfl, by decide +kernel, rfl, by decide +kernel, by decide +kernel⟩
def spChkPts : Sp := fun vs H Q _ => ∃ b ca xs ps, vs = [.ref ca] ∧ H ca = some (sqo b xs) ∧ TPs H xs ps ∧ ∀ H', Same H H' → Q .non H'
theorem kit_lt {K : PySem.W.Frag} {b : Bool} : PySem.W.kitAny K (.type (if b = true then "tuple" else "list")) [.type "list", .type "tuple"] = some true := by
  cases b
  · exact kitAny_cons (b := true) (kit_ty (by decide +kernel)) (fun z => nomatch z) (fun _ => rfl)
  · refine kitAny_cons (b := false) (kit_ty (by decide +kernel)) (fun _ => ?_) (fun z => nomatch z)
    exact kitAny_cons (b := true) (kit_ty (by decide +kernel)) (fun z => nomatch z) (fun _ => rfl)
theorem ty_sq {K : PySem.W.Frag} {b : Bool} {H : Hp} {a : Addr} {xs : List V} (h : H a = some (sqo b xs)) : TyX K H (.ref a) (.type (if b = true then "tuple" else "list")) := by
  cases b
  · exact .base (.lst h)
  · exact .base (.tup h)
theorem ok_chkPts {f : Addr} {fd : FuncData} (F : Fun K "check_points" "check_points" sChkPts f fd) (C : Cal P w K mg base 2 "is_point" ["value"] spIsPoint) (m1 : mg "isinstance" = none) (m2 : mg "list" = none) (m3 : mg "tuple" = none) (m4 : mg "enumerate" = none) :
    FnOk P w K mg base CX0 3 f fd ["value"] spChkPts := by
  refine F.ok scChkPts (fun vs H Q E h => ?_) (fun cdv A outer s H vs Q E hr h => ?_)
  · obtain ⟨b, ca, xs, ps, rfl, _⟩ := h; rfl
  · obtain ⟨b, ca, xs, ps, rfl, hc, hp, k⟩ := h
    refine ⟨_, pss_cons (ps_if (pt_not (pt_val (pe_callB call_isiT (by rfl) m1 (by decide +kernel) (pa_cons (pv 0) (pa_cons (pe_tup (pa_cons (pe_bltn (v := .ty "list") (by rfl) m2 (by decide +kernel) rfl) (pa_cons (pe_bltn (v := .ty "tuple") (by rfl) m3 (by decide +kernel) rfl) pa_nil))) pa_nil))))) (pss_one ps_never) pss_nil)
      (pss_one (ps_for PassesOwn.never rfl (pi_enumX b (by rfl) m4 (pa_cons (pv 0) pa_nil)) (pg_tup rfl (pgs_cons (pg_name (i := 1) scChkPts.nd rfl (Or.inl rfl)) (pgs_cons (pg_name (i := 2) scChkPts.nd rfl (Or.inl rfl)) pgs_nil)))
        (pss_one (ps_if (pt_not (pt_val (pe_cal C hr rfl (pa_cons (pv 2) pa_nil)))) (pss_one ps_never) pss_nil)))), ?_⟩
    refine ⟨_, rfl, by show 2 ≤ sizeLine; decide, fun d hd => ?_⟩
    have s0 : Same H (upd H d (.tup [.ty "list", .ty "tuple"])) := Same.new hd
    refine ⟨.ref ca, d, _, _, [.type "list", .type "tuple"], true, rfl, upd_same, .cons (.ty _) (.cons (.ty _) .nil), ty_sq (s0 _ _ hc), kit_lt, true, rfl, iteF ?_⟩
    refine ⟨_, rfl, ca, xs, rfl, sqx (s0 _ _ hc), for_en (xs := xs) (fun _ σ H' => Same H H' ∧ ∃ a1 a2, σ = [some (.ref ca), a1, a2]) ⟨s0, _, _, rfl⟩ (fun i σ H' _ h => sqx (h.1 _ _ hc)) ?_ (fun σ H' h => ?_)⟩
    · rintro i x T σ H' hx ⟨s1, a1, a2, rfl⟩ hT
      obtain ⟨hi, hq⟩ := hp.at hx
      have s2 := s1.trans (Same.new (o := .tup [.int (i : Nat), x]) hT)
      refine ⟨T, _, rfl, SqT.of upd_same, rfl, _, _, rfl, _, _, rfl, rfl, ?_⟩
      refine ⟨_, rfl, x, _, rfl, hq.keep (Keep.of s2), fun H3 s3 => ⟨true, rfl, iteF ?_⟩⟩
      exact ⟨s2.trans s3, _, _, rfl⟩
    · obtain ⟨s1, _⟩ := h
      exact k _ s1
end
end Lat

/-! D4: triples, check_turns, first_reflex. -/
namespace Lat
open PySem PySem.Spec PyProof.Rows L2 Geo Gx
/-- a loop's parts -/
def loopElts (b : List Stmt) : List Expr := match b with
  | .For (.Tuple e _ _) _ _ _ _ :: _ => e
  | _ => []
def loopKind (b : List Stmt) : Nat := match b with
  | .For (.Tuple _ k _) _ _ _ _ :: _ => k
  | _ => 0
def loopPos (b : List Stmt) : Pos := match b with
  | .For (.Tuple _ _ p) _ _ _ _ :: _ => p
  | _ => ⟨0, 0, 0, 0⟩
def loopYield (b : List Stmt) : Expr := match b with
  | .For _ _ (.Expr (.Yield (some e) _) _ :: _) _ _ :: _ => e
  | _ => .Name "corners" ⟨0, 0, 0, 0⟩
/-- what triples gives at i -/
def tri (xs : List V) (i : Nat) : List V := match xs[(i + xs.length - 1) % xs.length]?, xs[i]?, xs[(i + 1) % xs.length]? with
  | some a, some b, some c => [a, b, c]
  | _, _, _ => []
theorem tri_of {xs : List V} {i : Nat} (h : i < xs.length) : ∃ a b c, xs[(i + xs.length - 1) % xs.length]? = some a ∧ xs[i]? = some b ∧ xs[(i + 1) % xs.length]? = some c ∧ tri xs i = [a, b, c] := by
  have h1 : (i + xs.length - 1) % xs.length < xs.length := Nat.mod_lt _ (by omega)
  have h2 : (i + 1) % xs.length < xs.length := Nat.mod_lt _ (by omega)
  refine ⟨_, _, _, List.getElem?_eq_getElem h1, List.getElem?_eq_getElem h, List.getElem?_eq_getElem h2, ?_⟩
  unfold tri
  rw [List.getElem?_eq_getElem h1, List.getElem?_eq_getElem h, List.getElem?_eq_getElem h2]
theorem atI_prev {xs : List V} {i : Nat} {a : V} (h : i < xs.length) (e : xs[(i + xs.length - 1) % xs.length]? = some a) : atI xs ((i : Int) - 1) = some a := by
  by_cases hi : i = 0
  · subst hi
    have e0 : (0 + xs.length - 1) % xs.length = xs.length - 1 := by rw [Nat.zero_add]; exact Nat.mod_eq_of_lt (by omega)
    rw [e0] at e
    unfold atI ixN
    rw [if_neg (by omega), if_pos (by omega)]
    have e1 : (((0 : Nat) : Int) - 1 + (xs.length : Int)).toNat = xs.length - 1 := by omega
    rw [e1]
    exact e
  · have e0 : (i + xs.length - 1) % xs.length = i - 1 := by
      have : i + xs.length - 1 = (i - 1) + xs.length := by omega
      rw [this, Nat.add_mod_right]
      exact Nat.mod_eq_of_lt (by omega)
    rw [e0] at e
    have e1 : ((i : Int) - 1) = ((i - 1 : Nat) : Int) := by omega
    rw [e1]
    exact atI_nat e
theorem atI_next {xs : List V} {i : Nat} {a : V} (h : i < xs.length) (e : xs[(i + 1) % xs.length]? = some a) : atI xs (((i : Int) + 1).fmod (xs.length : Int)) = some a := by
  have e1 : ((i : Int) + 1).fmod (xs.length : Int) = (((i + 1) % xs.length : Nat) : Int) := by
    rw [Int.fmod_eq_emod_of_nonneg _ (by omega)]
    rfl
  rw [e1]
  exact atI_nat e
abbrev nmT : List Str := ["corners", "index", "corner"]
theorem gnT : GNames nmT (defScope sTriples) := ⟨by rfl, by decide, by decide +kernel, by decide +kernel, by decide +kernel⟩
theorem len_sq {K : PySem.W.Frag} {b : Bool} {H : Hp} {a : Addr} {xs : List V} (h : SqX b K H a xs) : SqL K H a xs ∨ SqT K H a xs := sqx_any h
theorem sqX_new {b : Bool} {K : PySem.W.Frag} {H : Hp} {T a : Addr} {o : HO} {xs : List V} (hT : H T = none) (h : SqX b K H a xs) : SqX b K (upd H T o) a xs := Gx.sqX_upd hT h
theorem txT {X : Cx} {f : Addr} {cd : Value} {b : Bool} (m1 : X.mg "len" = none) (ca : Addr) (xs : List V) : GText X nmT "triples" (defScope sTriples) f cd b ca xs (tri xs) (loopElts (defBody sTriples)) (loopKind (defBody sTriples)) (loopPos (defBody sTriples)) (loopYield (defBody sTriples)) where
  S := gnT
  co := rfl
  three := rfl
  ni := by intro L; rfl
  step := fun A s0 H0 => by
    refine ⟨_, _, pg_tup rfl (pgs_cons (pg_name (i := 1) gnT.nd rfl (Or.inl rfl)) (pgs_cons (pg_name (i := 2) gnT.nd rfl (Or.inl rfl)) pgs_nil)),
      pe_tup (pa_cons (pe_ix ix_seq (pv 0) (pe_op op_sub (pv 1) pe_int) (fun _ _ => rfl)) (pa_cons (pv 2) (pa_cons (pe_ix ix_seq (pv 0) (pe_op op_modN (pe_op op_add (pv 1) pe_int) (pe_callB call_len_seq (by rfl) m1 PySem.boot_len (pa_cons (pv 0) pa_nil))) (fun _ _ => rfl)) pa_nil))), ?_⟩
    intro i x T a1 a2 H hx hT hs
    have hi : i < xs.length := (List.getElem?_eq_some_iff.mp hx).1
    obtain ⟨a, c, d, ea, ec, ed, et⟩ := tri_of hi
    rw [et]
    have hs2 : SqX b X.K (upd H T (.tup [.int (i : Nat), x])) ca xs := sqX_new hT hs
    refine ⟨T, _, rfl, SqT.of upd_same, rfl, _, _, rfl, _, _, rfl, rfl, ⟨_, _, rfl⟩, ?_⟩
    refine ⟨_, rfl, _, rfl, _, _, rfl, rfl, ixX hs2 (atI_prev hi ea) ?_⟩
    refine ⟨_, rfl, _, rfl, _, rfl, _, _, rfl, rfl, _, rfl, ca, xs, rfl, sqx_any hs2, _, _, rfl, rfl, by omega, ixX hs2 (atI_next hi ed) ?_⟩
    have exc : x = c := Option.some.inj (hx.symm.trans ec)
    subst exc
    refine ⟨by show 3 ≤ sizeLine; decide, fun D hD => ⟨D, rfl, hD, upd_same, fun bb h1 h2 h3 => ?_, by show 3 ≤ sizeLine; decide⟩⟩
    rw [upd_ne h3, upd_ne h2]
    exact h1
end Lat

/-! D5: check_turns, first_reflex. -/
namespace Lat
open PySem PySem.Spec PyProof.Rows L2 Geo Gx
abbrev sChkTurns : Stmt := top 22
abbrev sReflex : Stmt := top 32
/-- a small convex ring -/
structure Cv (ps : List Pt) : Prop where
  three : 3 ≤ ps.length
  few : ps.length ≤ 60
  left : ∀ i k, i < ps.length → k < ps.length → k ≠ i → k ≠ (i + 1) % ps.length → 0 < turn (at' ps i) (at' ps ((i + 1) % ps.length)) (at' ps k)
  bd : ∀ i, i < ps.length → Bd 100 (at' ps i)
theorem Bd.up {B C : Int} {p : Pt} (h : Bd B p) (hc : B ≤ C) : Bd C p := by unfold Bd at *; omega
theorem nxt_ne {n i : Nat} (h : 2 ≤ n) (hi : i < n) : (i + 1) % n ≠ i := by
  rcases Nat.lt_or_ge (i + 1) n with h1 | h1
  · rw [Nat.mod_eq_of_lt h1]; omega
  · have e : i + 1 = n := by omega
    rw [e, Nat.mod_self]; omega
theorem nxt2_ne {n i : Nat} (h : 3 ≤ n) (hi : i < n) : ((i + 1) % n + 1) % n ≠ i := by
  rcases Nat.lt_or_ge (i + 1) n with h1 | h1
  · rw [Nat.mod_eq_of_lt h1]
    rcases Nat.lt_or_ge (i + 1 + 1) n with h2 | h2
    · rw [Nat.mod_eq_of_lt h2]; omega
    · have e : i + 1 + 1 = n := by omega
      rw [e, Nat.mod_self]; omega
  · have e : i + 1 = n := by omega
    rw [e, Nat.mod_self, Nat.mod_eq_of_lt (by omega)]; omega
theorem prv_nxt {n i : Nat} (hi : i < n) : ((i + n - 1) % n + 1) % n = i := by
  rcases Nat.eq_zero_or_pos i with h | h
  · subst h
    rw [Nat.zero_add, Nat.mod_eq_of_lt (show n - 1 < n by omega), show n - 1 + 1 = n by omega, Nat.mod_self]
  · rw [show i + n - 1 = (i - 1) + n by omega, Nat.add_mod_right, Nat.mod_eq_of_lt (show i - 1 < n by omega), show i - 1 + 1 = i by omega, Nat.mod_eq_of_lt hi]
theorem Cv.turns {ps : List Pt} (c : Cv ps) {i : Nat} (hi : i < ps.length) : 0 < turn (at' ps ((i + ps.length - 1) % ps.length)) (at' ps i) (at' ps ((i + 1) % ps.length)) := by
  have h3 := c.three
  have hj : (i + ps.length - 1) % ps.length < ps.length := Nat.mod_lt _ (by omega)
  have e := prv_nxt hi
  have h := c.left _ ((i + 1) % ps.length) hj (Nat.mod_lt _ (by omega)) (fun z => ?_) (fun z => ?_)
  · rw [e] at h; exact h
  · have := nxt2_ne h3 hj
    rw [e, z] at this
    exact this rfl
  · rw [e] at z
    exact nxt_ne (by omega) hi z
/-- the text of a generator stands there -/
structure GenF (K : PySem.W.Frag) (mg : Str → Option Value) (x : Str) (st : Stmt) (ps : List Str) : Prop where
  ex : ∃ f fd, Fun K x x st f fd ∧ mg x = some (.ref f) ∧ Binds K fd ps []
theorem pi_tri {X : Cx} {k kk : Nat} {b : Bool} {e : Expr} {telts : List Expr} {pe pg pos pos2 ttp : Pos} {te : TE} (T : GenF X.K X.mg "triples" sTriples ["corners"]) (hr : Room k X.A) (hc : X.calm = true) (hg : Gl X "triples") (hge : Gl X "enumerate")
    (m1 : X.mg "len" = none) (m2 : X.mg "enumerate" = none) (he : PE X e te) (hs1 : starEach [e] X.env = (false, eval e X.env) :: starEach [] X.env := by rfl)
    (hs2 : starEach [.Call (.Name "triples" pg) [e] [] pos2] X.env = (false, eval (.Call (.Name "triples" pg) [e] [] pos2) X.env) :: starEach [] X.env := by rfl) :
    PIG X (.Tuple telts kk ttp) (.Call (.Name "enumerate" pe) [.Call (.Name "triples" pg) [e] [] pos2] [] pos) (iGenX b X.K tri te) := by
  obtain ⟨f, fd, F, hm, hb⟩ := T.ex
  obtain ⟨oc, od, kV, doc, pm, an, cdv, ct, osl, rfl, lk, hcd⟩ := F.ex
  exact pig_gen (x0 := "corners") (qual := "triples") (N := nmT) lk hcd (by rfl) (fun ca xs => txT m1 ca xs) ⟨rfl, rfl, m2, rfl⟩ rfl hb hr.depth hc hg hm F.kp hge he rfl hs1 hs2
section
variable {P : Program} {w : World} {K : PySem.W.Frag} {mg : Str → Option Value} {base : Heap}
theorem scChkTurns : FnScope ["corners", "position", "before", "corner", "after"] ["corners"] (defScope sChkTurns) := ⟨rfl, rfl, rfl, by decide +kernel, rfl, by decide +kernel, by decide +kernel⟩
def spChkTurns : Sp := fun vs H Q _ => ∃ ca xs ps, vs = [.ref ca] ∧ H ca = some (.lst xs) ∧ TPs H xs ps ∧ Cv ps ∧ ∀ H', Same H H' → Q .non H'
theorem scReflex : FnScope ["corners", "position", "before", "corner", "after"] ["corners"] (defScope sReflex) := ⟨rfl, rfl, rfl, by decide +kernel, rfl, by decide +kernel, by decide +kernel⟩
def spReflex : Sp := fun vs H Q _ => ∃ ca xs ps, vs = [.ref ca] ∧ H ca = some (.tup xs) ∧ TPs H xs ps ∧ Cv ps ∧ ∀ H', Same H H' → Q .non H'
theorem ok_chkTurns {f : Addr} {fd : FuncData} (F : Fun K "check_turns" "check_turns" sChkTurns f fd) (T : GenF K mg "triples" sTriples ["corners"]) (C : Cal P w K mg base 2 "turn_of" ["first", "second", "third"] spTurn) (m1 : mg "len" = none) (m2 : mg "enumerate" = none) :
    FnOk P w K mg base CX0 3 f fd ["corners"] spChkTurns := by
  refine F.ok scChkTurns (fun vs H Q E h => ?_) (fun cdv A outer s H vs Q E hr h => ?_)
  · obtain ⟨ca, xs, ps, rfl, _⟩ := h; rfl
  · obtain ⟨ca, xs, ps, rfl, hc, hp, cv, k⟩ := h
    refine ⟨_, pss_one (ps_forG (fun _ _ h => h) PassesOwn.never (pi_tri (b := false) T hr rfl (by rfl) (by rfl) m1 m2 (pv 0))
      (pg_tup rfl (pgs_cons (pg_name (i := 1) scChkTurns.nd rfl (Or.inl rfl)) (pgs_cons (pg_tup rfl (pgs_cons (pg_name (i := 2) scChkTurns.nd rfl (Or.inl rfl)) (pgs_cons (pg_name (i := 3) scChkTurns.nd rfl (Or.inl rfl)) (pgs_cons (pg_name (i := 4) scChkTurns.nd rfl (Or.inl rfl)) pgs_nil)))) pgs_nil)))
      (pss_one (ps_if (pt_cmpR op_eq (pe_cal C hr rfl (pa_cons (pv 2) (pa_cons (pv 3) (pa_cons (pv 4) pa_nil)))) pe_int (nomark _)) (pss_one ps_never) pss_nil))), ?_⟩
    refine ⟨_, rfl, ca, xs, rfl, SqL.of hc, ⟨_, hc⟩, for_ge (xs := xs) (fun _ σ H' => Same H H' ∧ ∃ a1 a2 a3 a4, σ = [some (.ref ca), a1, a2, a3, a4]) ⟨Same.refl H, _, _, _, _, rfl⟩ (fun i σ H' _ h => ⟨SqL.of (h.1 _ _ hc), _, h.1 _ _ hc⟩) ?_ (fun σ H' h => k _ h.1)⟩
    rintro i T Pp σ H' hi ⟨s1, a1, a2, a3, a4, rfl⟩ hT hP hne
    obtain ⟨x, y, z, ex, ey, ez, et⟩ := tri_of hi
    rw [et]
    have s2 := (s1.trans (Same.new (o := .tup [x, y, z]) hT)).trans (Same.new (o := .tup [.int (i : Nat), .ref T]) (by rw [upd_ne hne]; exact hP))
    have kp := Keep.of s2
    have el := hp.len
    obtain ⟨bx, hx⟩ := hp.at ex
    obtain ⟨_, hy⟩ := hp.at ey
    obtain ⟨_, hz⟩ := hp.at ez
    have hi' : i < ps.length := by omega
    refine ⟨Pp, _, rfl, SqT.of upd_same, rfl, _, _, rfl, _, _, rfl, ⟨T, _, rfl, SqT.of (by rw [upd_ne (Ne.symm hne), upd_same]), rfl, _, _, rfl, _, _, rfl, _, _, rfl, rfl, rfl, ?_⟩⟩
    refine ⟨_, rfl, _, rfl, _, rfl, x, y, z, _, _, _, rfl, hx.keep kp, hy.keep kp, hz.keep kp, (cv.bd _ bx).up (by decide), (cv.bd _ hi').up (by decide), fun H3 s3 => ?_⟩
    have ht := cv.turns hi'
    rw [← el] at ht
    refine ⟨rfl, _, rfl, ?_⟩
    refine ite2 (fun q => ?_) (fun _ => ⟨s2.trans s3, _, _, _, _, rfl⟩)
    have e0 := V.int.inj (of_decide_eq_true q)
    omega
theorem ok_reflex {f : Addr} {fd : FuncData} (F : Fun K "first_reflex" "first_reflex" sReflex f fd) (T : GenF K mg "triples" sTriples ["corners"]) (C : Cal P w K mg base 2 "turn_of" ["first", "second", "third"] spTurn) (m1 : mg "len" = none) (m2 : mg "enumerate" = none) :
    FnOk P w K mg base CX0 3 f fd ["corners"] spReflex := by
  refine F.ok scReflex (fun vs H Q E h => ?_) (fun cdv A outer s H vs Q E hr h => ?_)
  · obtain ⟨ca, xs, ps, rfl, _⟩ := h; rfl
  · obtain ⟨ca, xs, ps, rfl, hc, hp, cv, k⟩ := h
    refine ⟨_, pss_cons (ps_forG (fun _ _ h => h) PassesOwn.never (pi_tri (b := true) T hr rfl (by rfl) (by rfl) m1 m2 (pv 0))
      (pg_tup rfl (pgs_cons (pg_name (i := 1) scReflex.nd rfl (Or.inl rfl)) (pgs_cons (pg_tup rfl (pgs_cons (pg_name (i := 2) scReflex.nd rfl (Or.inl rfl)) (pgs_cons (pg_name (i := 3) scReflex.nd rfl (Or.inl rfl)) (pgs_cons (pg_name (i := 4) scReflex.nd rfl (Or.inl rfl)) pgs_nil)))) pgs_nil)))
      (pss_one (ps_if (pt_cmpR op_lt (pe_cal C hr rfl (pa_cons (pv 2) (pa_cons (pv 3) (pa_cons (pv 4) pa_nil)))) pe_int (nomark _)) (pss_one ps_never) pss_nil))) (pss_one (ps_ret pe_non)), ?_⟩
    refine ⟨_, rfl, ca, xs, rfl, SqT.of hc, ⟨_, hc⟩, for_ge (xs := xs) (fun _ σ H' => Same H H' ∧ ∃ a1 a2 a3 a4, σ = [some (.ref ca), a1, a2, a3, a4]) ⟨Same.refl H, _, _, _, _, rfl⟩ (fun i σ H' _ h => ⟨SqT.of (h.1 _ _ hc), _, h.1 _ _ hc⟩) ?_ (fun σ H' h => k _ h.1)⟩
    rintro i T Pp σ H' hi ⟨s1, a1, a2, a3, a4, rfl⟩ hT hP hne
    obtain ⟨x, y, z, ex, ey, ez, et⟩ := tri_of hi
    rw [et]
    have s2 := (s1.trans (Same.new (o := .tup [x, y, z]) hT)).trans (Same.new (o := .tup [.int (i : Nat), .ref T]) (by rw [upd_ne hne]; exact hP))
    have kp := Keep.of s2
    have el := hp.len
    obtain ⟨bx, hx⟩ := hp.at ex
    obtain ⟨_, hy⟩ := hp.at ey
    obtain ⟨_, hz⟩ := hp.at ez
    have hi' : i < ps.length := by omega
    refine ⟨Pp, _, rfl, SqT.of upd_same, rfl, _, _, rfl, _, _, rfl, ⟨T, _, rfl, SqT.of (by rw [upd_ne (Ne.symm hne), upd_same]), rfl, _, _, rfl, _, _, rfl, _, _, rfl, rfl, rfl, ?_⟩⟩
    refine ⟨_, rfl, _, rfl, _, rfl, x, y, z, _, _, _, rfl, hx.keep kp, hy.keep kp, hz.keep kp, (cv.bd _ bx).up (by decide), (cv.bd _ hi').up (by decide), fun H3 s3 => ?_⟩
    have ht := cv.turns hi'
    rw [← el] at ht
    refine ⟨_, _, rfl, rfl, _, rfl, ?_⟩
    refine ite2 (fun q => ?_) (fun _ => ⟨s2.trans s3, _, _, _, _, rfl⟩)
    have e0 := of_decide_eq_true q
    omega
end
end Lat

/-! D6: is_on, have_common_point, edges_of. -/
namespace Lat
open PySem PySem.Spec PyProof.Rows L2 Geo Gx
abbrev sIsOn : Stmt := top 24
abbrev sCommon : Stmt := top 25
abbrev sEdges : Stmt := top 26
theorem mul_bd {x y A B : Int} (h1 : -A ≤ x) (h2 : x ≤ A) (h3 : -B ≤ y) (h4 : y ≤ B) : -(A * B) ≤ x * y ∧ x * y ≤ A * B := by
  have a := Int.mul_nonneg (show 0 ≤ A - x by omega) (show 0 ≤ B - y by omega)
  have b := Int.mul_nonneg (show 0 ≤ A + x by omega) (show 0 ≤ B + y by omega)
  have c := Int.mul_nonneg (show 0 ≤ A - x by omega) (show 0 ≤ B + y by omega)
  have d := Int.mul_nonneg (show 0 ≤ A + x by omega) (show 0 ≤ B - y by omega)
  grind
theorem turn_bd {a b c : Pt} (ha : Bd 100 a) (hb : Bd 100 b) (hc : Bd 100 c) : -80000 ≤ turn a b c ∧ turn a b c ≤ 80000 := by
  obtain ⟨a1, a2, a3, a4⟩ := ha
  obtain ⟨b1, b2, b3, b4⟩ := hb
  obtain ⟨c1, c2, c3, c4⟩ := hc
  have h1 := mul_bd (A := 200) (B := 200) (x := b.1 - a.1) (y := c.2 - b.2) (by omega) (by omega) (by omega) (by omega)
  have h2 := mul_bd (A := 200) (B := 200) (x := b.2 - a.2) (y := c.1 - b.1) (by omega) (by omega) (by omega) (by omega)
  unfold turn
  omega
/-! the same rules, the frag named (within a comprehension) -/
theorem ix_seqK {X : Cx} (K : PySem.W.Frag) (h : X.K = K := by rfl) : IxR X (rIx K) := h ▸ ix_seq
theorem ix_tupK {X : Cx} (K : PySem.W.Frag) (h : X.K = K := by rfl) : IxR X (rIxT K) := h ▸ ix_tup
theorem ix_listK {X : Cx} (K : PySem.W.Frag) (h : X.K = K := by rfl) : IxR X (rIxL K) := h ▸ ix_list
theorem pg_tupK {X : Cx} {es : List Expr} {k : Nat} {pos : Pos} {t : TGs} (n : Nat) (K : PySem.W.Frag) (hc : X.calm = true) (h : PGs X es t) (hK : X.K = K := by rfl)
    (hn : (assignEach es X.env).length = n := by rfl) (hst : (assignEach es X.env).findIdx? (·.1) = none := by rfl) : PG X (.Tuple es k pos) (gTup K n t) := hK ▸ pg_tup hc h hn hst
def rLen (K : PySem.W.Frag) : List V → Hp → VK → Prop := fun xs H Q => ∃ p ys, xs = [V.ref p] ∧ (SqL K H p ys ∨ SqT K H p ys) ∧ Q (V.int ys.length) H
theorem len_K {X : Cx} (K : PySem.W.Frag) (h : X.K = K := by rfl) : CallR X (.builtin "len") (rLen K) := h ▸ call_len_seq
theorem pt_nvr {X : Cx} {e : Expr} : PT X e (fun _ _ _ => False) := ⟨fun _ _ _ _ _ _ h => h.elim⟩
theorem pe_nvr {X : Cx} {e : Expr} : PE X e (fun _ _ _ => False) := ⟨fun _ _ _ _ _ _ h => h.elim⟩
section
variable {P : Program} {w : World} {K : PySem.W.Frag} {mg : Str → Option Value} {base : Heap}
theorem scIsOn : FnScope ["point", "start", "end"] ["point", "start", "end"] (defScope sIsOn) := ⟨rfl, rfl, rfl, by decide +kernel, rfl, by decide +kernel, by decide +kernel⟩
def spIsOn : Sp := fun vs H Q _ => ∃ v u x p q r, vs = [v, u, x] ∧ TP H v p ∧ TP H u q ∧ TP H x r ∧ Bd 100 p ∧ Bd 100 q ∧ Bd 100 r ∧ 0 < turn q r p ∧ ∀ H', Same H H' → Q (.bl false) H'
theorem ok_isOn {f : Addr} {fd : FuncData} (F : Fun K "is_on" "is_on" sIsOn f fd) (C : Cal P w K mg base 2 "turn_of" ["first", "second", "third"] spTurn) : FnOk P w K mg base CX0 3 f fd ["point", "start", "end"] spIsOn := by
  refine F.ok scIsOn (fun vs H Q E h => ?_) (fun cdv A outer s H vs Q E hr h => ?_)
  · obtain ⟨v, u, x, p, q, r, rfl, _⟩ := h; rfl
  · obtain ⟨v, u, x, p, q, r, rfl, hv, hu, hx, bp, bq, br, ht, k⟩ := h
    refine ⟨_, pss_one (ps_ret (pe_and (pe_cmpR op_eq (pe_cal C hr rfl (pa_cons (pv 1) (pa_cons (pv 2) (pa_cons (pv 0) pa_nil)))) pe_int (nomark _)) (pe_one pe_nvr))), ?_⟩
    refine ⟨_, rfl, _, rfl, _, rfl, u, x, v, q, r, p, rfl, hu, hx, hv, bq.up (by decide), br.up (by decide), fun H3 s3 => ?_⟩
    refine ⟨rfl, _, rfl, ?_⟩
    have e : decide (V.int (turn q r p) = V.int 0) = false := decide_eq_false (fun z => by have := V.int.inj z; omega)
    rw [e]
    exact iteF (k _ s3)
theorem scCommon : FnScope ["first", "second", "a", "b", "c", "d", "sides"] ["first", "second"] (defScope sCommon) := ⟨rfl, rfl, rfl, by decide +kernel, rfl, by decide +kernel, by decide +kernel⟩
def spCommon : Sp := fun vs H Q _ => ∃ e1 e2 va vb vc vd a b c d, vs = [.ref e1, .ref e2] ∧ H e1 = some (.tup [va, vb]) ∧ H e2 = some (.tup [vc, vd]) ∧ TP H va a ∧ TP H vb b ∧ TP H vc c ∧ TP H vd d ∧ Bd 100 a ∧ Bd 100 b ∧ Bd 100 c ∧ Bd 100 d ∧
  0 < turn a b c ∧ 0 < turn a b d ∧ 0 < turn c d a ∧ 0 < turn c d b ∧ ∀ H', Same H H' → Q (.bl false) H'
theorem ok_common {f : Addr} {fd : FuncData} (F : Fun K "have_common_point" "have_common_point" sCommon f fd) (C : Cal P w K mg base 2 "turn_of" ["first", "second", "third"] spTurn) (C2 : Cal P w K mg base 3 "is_on" ["point", "start", "end"] spIsOn) : FnOk P w K mg base CX0 4 f fd ["first", "second"] spCommon := by
  refine F.ok scCommon (fun vs H Q E h => ?_) (fun cdv A outer s H vs Q E hr h => ?_)
  · obtain ⟨_, _, _, _, _, _, _, _, _, _, rfl, _⟩ := h; rfl
  · obtain ⟨e1, e2, va, vb, vc, vd, a, b, c, d, rfl, h1, h2, ha, hb, hc, hd, ba, bb, bc, bd, t1, t2, t3, t4, k⟩ := h
    have hr2 := hr.mono (show 2 ≤ 3 by decide)
    refine ⟨_, pss_cons (ps_asg (pv 0) (pg_tup rfl (pgs_cons (pg_name (i := 2) scCommon.nd rfl (Or.inl rfl)) (pgs_cons (pg_name (i := 3) scCommon.nd rfl (Or.inl rfl)) pgs_nil))))
      (pss_cons (ps_asg (pv 1) (pg_tup rfl (pgs_cons (pg_name (i := 4) scCommon.nd rfl (Or.inl rfl)) (pgs_cons (pg_name (i := 5) scCommon.nd rfl (Or.inl rfl)) pgs_nil))))
      (pss_cons (ps_set (i := 6) scCommon.nd rfl (Or.inl rfl) (pe_tup (pa_cons (pe_cal C hr2 rfl (pa_cons (pv 2) (pa_cons (pv 3) (pa_cons (pv 4) pa_nil)))) (pa_cons (pe_cal C hr2 rfl (pa_cons (pv 2) (pa_cons (pv 3) (pa_cons (pv 5) pa_nil))))
        (pa_cons (pe_cal C hr2 rfl (pa_cons (pv 4) (pa_cons (pv 5) (pa_cons (pv 2) pa_nil)))) (pa_cons (pe_cal C hr2 rfl (pa_cons (pv 4) (pa_cons (pv 5) (pa_cons (pv 3) pa_nil)))) pa_nil))))))
      (pss_cons (ps_if (PW.pt (pw_and (pt_cmpR op_lt (pe_op op_mul (pe_ix ix_tup (pv 6) pe_int (fun _ _ => rfl)) (pe_ix ix_tup (pv 6) pe_int (fun _ _ => rfl))) pe_int (nomark _)) (pw_and1 pt_nvr))) (pss_one ps_never) pss_nil)
      (pss_one (ps_ret (pe_or (pe_cal C2 hr rfl (pa_cons (pv 4) (pa_cons (pv 2) (pa_cons (pv 3) pa_nil)))) (pe_or (pe_cal C2 hr rfl (pa_cons (pv 5) (pa_cons (pv 2) (pa_cons (pv 3) pa_nil))))
        (pe_or (pe_cal C2 hr rfl (pa_cons (pv 2) (pa_cons (pv 4) (pa_cons (pv 5) pa_nil)))) (pe_one (pe_cal C2 hr rfl (pa_cons (pv 3) (pa_cons (pv 4) (pa_cons (pv 5) pa_nil))))))))))))), ?_⟩
    refine ⟨_, rfl, e1, _, rfl, SqT.of h1, rfl, _, _, rfl, _, _, rfl, rfl, ?_⟩
    refine ⟨_, rfl, e2, _, rfl, SqT.of h2, rfl, _, _, rfl, _, _, rfl, rfl, ?_⟩
    have up : ∀ {p : Pt}, Bd 100 p → Bd 100000 p := fun h => h.up (by decide)
    refine ⟨_, rfl, _, rfl, _, rfl, va, vb, vc, a, b, c, rfl, ha, hb, hc, up ba, up bb, fun H1 s1 => ?_⟩
    refine ⟨_, rfl, _, rfl, _, rfl, va, vb, vd, a, b, d, rfl, ha.keep (Keep.of s1), hb.keep (Keep.of s1), hd.keep (Keep.of s1), up ba, up bb, fun H2 s2 => ?_⟩
    have s2 := s1.trans s2
    refine ⟨_, rfl, _, rfl, _, rfl, vc, vd, va, c, d, a, rfl, hc.keep (Keep.of s2), hd.keep (Keep.of s2), ha.keep (Keep.of s2), up bc, up bd, fun H3 s3 => ?_⟩
    have s3 := s2.trans s3
    refine ⟨_, rfl, _, rfl, _, rfl, vc, vd, vb, c, d, b, rfl, hc.keep (Keep.of s3), hd.keep (Keep.of s3), hb.keep (Keep.of s3), up bc, up bd, fun H4 s4 => ?_⟩
    have s4 := s3.trans s4
    refine ⟨by show 4 ≤ sizeLine; decide, fun T hT => ?_⟩
    have s5 := s4.trans (Same.new (o := .tup [.int (turn a b c), .int (turn a b d), .int (turn c d a), .int (turn c d b)]) hT)
    have bt := turn_bd ba bb bc
    refine ⟨_, rfl, T, _, 0, _, rfl, rfl, SqT.of upd_same, atI_nat (j := 0) rfl, _, rfl, T, _, 1, _, rfl, rfl, SqT.of upd_same, atI_nat (j := 1) rfl, _, _, rfl, rfl, .inl (far (by omega) (by omega)), ?_⟩
    refine ⟨_, _, rfl, rfl, _, rfl, ?_⟩
    have e : decide (turn a b c * turn a b d < 0) = false := decide_eq_false (fun z => by have := Int.mul_pos t1 t2; omega)
    rw [e]
    refine iteF (iteF ?_)
    refine ⟨_, rfl, _, rfl, _, rfl, vc, va, vb, c, a, b, rfl, hc.keep (Keep.of s5), ha.keep (Keep.of s5), hb.keep (Keep.of s5), bc, ba, bb, t1, fun H6 s6 => ⟨_, rfl, iteF ?_⟩⟩
    have s6 := s5.trans s6
    refine ⟨_, rfl, _, rfl, _, rfl, vd, va, vb, d, a, b, rfl, hd.keep (Keep.of s6), ha.keep (Keep.of s6), hb.keep (Keep.of s6), bd, ba, bb, t2, fun H7 s7 => ⟨_, rfl, iteF ?_⟩⟩
    have s7 := s6.trans s7
    refine ⟨_, rfl, _, rfl, _, rfl, va, vc, vd, a, c, d, rfl, ha.keep (Keep.of s7), hc.keep (Keep.of s7), hd.keep (Keep.of s7), ba, bc, bd, t3, fun H8 s8 => ⟨_, rfl, iteF ?_⟩⟩
    have s8 := s7.trans s8
    exact ⟨_, rfl, _, rfl, _, rfl, vb, vc, vd, b, c, d, rfl, hb.keep (Keep.of s8), hc.keep (Keep.of s8), hd.keep (Keep.of s8), bb, bc, bd, t4, fun H9 s9 => k _ (s8.trans s9)⟩
theorem scEdges : FnScope ["corners", "index", "corner"] ["corners"] (defScope sEdges) := ⟨rfl, rfl, rfl, by decide +kernel, rfl, by decide +kernel, by decide +kernel⟩
/-- the edges of a ring -/
def Edg (H : Hp) (es : List V) (ps : List Pt) : Prop := es.length = ps.length ∧ ∀ i, i < ps.length → ∃ t v u, es[i]? = some (.ref t) ∧ H t = some (.tup [v, u]) ∧ TP H v (at' ps i) ∧ TP H u (at' ps ((i + 1) % ps.length))
theorem Edg.keep {H H' : Hp} {es : List V} {ps : List Pt} (h : Edg H es ps) (k : Keep H H') : Edg H' es ps :=
  ⟨h.1, fun i hi => let ⟨t, v, u, a, b, c, d⟩ := h.2 i hi; ⟨t, v, u, a, k _ _ b, c.keep k, d.keep k⟩⟩
def spEdges : Sp := fun vs H Q _ => ∃ b ca xs ps, vs = [.ref ca] ∧ H ca = some (sqo b xs) ∧ TPs H xs ps ∧ ps.length ≤ 60 ∧ ∀ H' D es, Same H H' → H' D = some (.lst es) → H D = none → Edg H' es ps → Q (.ref D) H'
theorem ok_edges {f : Addr} {fd : FuncData} (F : Fun K "edges_of" "edges_of" sEdges f fd) (m1 : mg "len" = none) (m2 : mg "enumerate" = none) : FnOk P w K mg base CX0 1 f fd ["corners"] spEdges := by
  refine F.ok scEdges (fun vs H Q E h => ?_) (fun cdv A outer s H vs Q E hr h => ?_)
  · obtain ⟨_, _, _, _, rfl, _⟩ := h; rfl
  · obtain ⟨b, ca, xs, ps, rfl, hc, hp, hl, k⟩ := h
    have el := hp.len
    refine ⟨_, pss_one (ps_ret (pe_lc (own := [("index", 1), ("corner", 2)]) (tt := tYes) rfl scEdges.nd (pi_enumX b (by rfl) m2 (pa_cons (pv 0) pa_nil)) (blkOk_by (own := [("index", 1), ("corner", 2)]) (N := ["corners", "index", "corner"]) (sc := defScope sEdges) (by decide +kernel))
      (fun _ _ _ _ _ => pg_tupK 2 K rfl (pgs_cons (pg_name (i := 1) scEdges.nd rfl (Or.inl rfl)) (pgs_cons (pg_name (i := 2) scEdges.nd rfl (Or.inl rfl)) pgs_nil))) (fun _ _ _ _ _ => pts_nil)
      (fun _ _ _ _ _ => pe_tup (pa_cons (pv 2) (pa_cons (pe_ix (ix_seqK K) (pv 0) (pe_op op_modN (pe_op op_add (pv 1) pe_int) (pe_callB (len_K K) (by rfl) m1 PySem.boot_len (pa_cons (pv 0) pa_nil))) (fun _ _ => rfl)) pa_nil))))), ?_⟩
    refine ⟨_, rfl, ca, xs, rfl, sqx hc, fun D hD => lc_en (b := b) (xs := xs) (fun i H' => Same H H' ∧ ∃ es, H' D = some (.lst es) ∧ es.length = i ∧ ∀ j, j < i → ∃ t v u, es[j]? = some (.ref t) ∧ H' t = some (.tup [v, u]) ∧ TP H v (at' ps j) ∧ TP H u (at' ps ((j + 1) % ps.length)))
      ⟨Same.new hD, [], upd_same, rfl, fun j hj => by omega⟩ (fun i H' _ h => sqx (h.1 _ _ hc)) ?_ (fun H' h => ?_)⟩
    · rintro i x T H' hx ⟨s1, es, he, hn, hes⟩ hT
      have hi : i < xs.length := (List.getElem?_eq_some_iff.mp hx).1
      obtain ⟨a, c, d, ea, ec, ed, et⟩ := tri_of hi
      have exc : x = c := Option.some.inj (hx.symm.trans ec)
      subst exc
      have kT : Same H' (upd H' T (.tup [.int (i : Nat), x])) := Same.new hT
      have s2 := s1.trans kT
      have hs2 : SqX b K (upd H' T (.tup [.int (i : Nat), x])) ca xs := sqx (s2 _ _ hc)
      refine ⟨T, _, rfl, SqT.of upd_same, rfl, _, _, rfl, _, _, rfl, rfl, rfl, tyes ?_⟩
      refine ⟨_, rfl, _, rfl, _, rfl, _, _, rfl, rfl, _, rfl, ca, xs, rfl, sqx_any hs2, _, _, rfl, rfl, by omega, ixX hs2 (atI_next hi ed) ?_⟩
      refine ⟨by show 2 ≤ sizeLine; decide, fun t ht => ?_⟩
      have s3 := kT.trans (Same.new (o := .tup [x, d]) ht)
      have hDt : D ≠ t := ne_of_none (kT _ _ he) ht
      refine ⟨es, s3 _ _ he, smallLine (by omega), ?_, es ++ [.ref t], upd_same, by simp [hn], fun j hj => ?_⟩
      · exact Same.over (s1.trans s3) hD
      · rcases Nat.lt_or_ge j i with h1 | h1
        · obtain ⟨t', v, u, q1, q2, q3, q4⟩ := hes j h1
          refine ⟨t', v, u, ?_, ?_, q3, q4⟩
          · rw [List.getElem?_append_left (by omega)]; exact q1
          · rw [upd_ne (ne_of q2 he (fun z => nomatch z))]
            exact s3 _ _ q2
        · have e : j = i := by omega
          subst e
          refine ⟨t, x, d, ?_, ?_, (hp.at ec).2, ?_⟩
          · rw [← hn]; simp
          · rw [upd_ne (Ne.symm hDt), upd_same]
          · have := (hp.at ed).2
            rw [el] at this
            exact this
    · obtain ⟨s1, es, he, hn, hes⟩ := h
      refine k _ D es s1 he hD ⟨by omega, fun i hi => ?_⟩
      obtain ⟨t, v, u, q1, q2, q3, q4⟩ := hes i (by omega)
      exact ⟨t, v, u, q1, q2, q3.keep (Keep.of s1), q4.keep (Keep.of s1)⟩
end
end Lat

/-! D7: check_crossings, area_of. -/
namespace Lat
open PySem PySem.Spec PyProof.Rows L2 Geo Gx
abbrev sCross2 : Stmt := top 27
abbrev sArea : Stmt := top 28
/-- the sum of the first m edges' crosses -/
def arS (ps : List Pt) (m : Nat) : List Int := (List.range m).map fun i => cr (at' ps i) (at' ps ((i + 1) % ps.length))
theorem arS_succ (ps : List Pt) (m : Nat) : (arS ps (m + 1)).sum = (arS ps m).sum + cr (at' ps m) (at' ps ((m + 1) % ps.length)) := by
  unfold arS
  rw [List.range_succ, List.map_append, List.sum_append]
  simp
theorem cr_fan (a b c : Pt) : cr a b + cr b c = cr a c + turn b c a := by unfold cr turn; grind
theorem ar_fan {ps : List Pt} (c : Cv ps) : ∀ m, m + 1 ≤ ps.length → cr (at' ps 0) (at' ps m) ≤ (arS ps m).sum ∧ (2 ≤ m → cr (at' ps 0) (at' ps m) < (arS ps m).sum)
  | 0, _ => ⟨by unfold arS cr; simp; grind, fun h => by omega⟩
  | m + 1, h => by
    obtain ⟨h1, _⟩ := ar_fan c m (by omega)
    have h3 := c.three
    rw [arS_succ, Nat.mod_eq_of_lt (show m + 1 < ps.length by omega)]
    have e := cr_fan (at' ps 0) (at' ps m) (at' ps (m + 1))
    by_cases hm : m = 0
    · subst hm
      refine ⟨?_, fun z => by omega⟩
      have : (arS ps 0).sum = 0 := rfl
      show cr (at' ps 0) (at' ps 1) ≤ (arS ps 0).sum + cr (at' ps 0) (at' ps 1)
      omega
    · have t := c.left m 0 (by omega) (by omega) (by omega) (by rw [Nat.mod_eq_of_lt (show m + 1 < ps.length by omega)]; omega)
      rw [Nat.mod_eq_of_lt (show m + 1 < ps.length by omega)] at t
      exact ⟨by omega, fun _ => by omega⟩
theorem cr_anti (a b : Pt) : cr a b = -cr b a := by unfold cr; grind
theorem area_pos {ps : List Pt} (c : Cv ps) : 0 < (arS ps ps.length).sum := by
  have h3 := c.three
  obtain ⟨m, hm⟩ : ∃ m, ps.length = m + 1 := ⟨ps.length - 1, by omega⟩
  have h := (ar_fan c m (by omega)).2 (by omega)
  rw [hm, arS_succ, hm, Nat.mod_self]
  have := cr_anti (at' ps 0) (at' ps m)
  omega
section
variable {P : Program} {w : World} {K : PySem.W.Frag} {mg : Str → Option Value} {base : Heap}
theorem scCross2 : FnScope ["corners", "edges", "many", "first", "second"] ["corners"] (defScope sCross2) := ⟨rfl, rfl, rfl, by decide +kernel, rfl, by decide +kernel, by decide +kernel⟩
def spCross2 : Sp := fun vs H Q _ => ∃ ca xs ps, vs = [.ref ca] ∧ H ca = some (.lst xs) ∧ TPs H xs ps ∧ Cv ps ∧ ∀ H', Same H H' → Q .non H'
theorem ok_cross2 {f : Addr} {fd : FuncData} (F : Fun K "check_crossings" "check_crossings" sCross2 f fd) (C : Cal P w K mg base 1 "edges_of" ["corners"] spEdges) (C2 : Cal P w K mg base 4 "have_common_point" ["first", "second"] spCommon) (m1 : mg "len" = none) (m2 : mg "range" = none) :
    FnOk P w K mg base CX0 5 f fd ["corners"] spCross2 := by
  refine F.ok scCross2 (fun vs H Q E h => ?_) (fun cdv A outer s H vs Q E hr h => ?_)
  · obtain ⟨_, _, _, rfl, _⟩ := h; rfl
  · obtain ⟨ca, xs, ps, rfl, hc, hp, cv, k⟩ := h
    have h3 := cv.three
    have h60 := cv.few
    refine ⟨_, pss_cons (ps_set (i := 1) scCross2.nd rfl (Or.inl rfl) (pe_cal C (hr.mono (by decide)) rfl (pa_cons (pv 0) pa_nil)))
      (pss_cons (ps_set (i := 2) scCross2.nd rfl (Or.inl rfl) (pe_callB call_len_seq (by rfl) m1 PySem.boot_len (pa_cons (pv 1) pa_nil)))
      (pss_one (ps_for PassesOwn.never rfl (pi_range1 rfl m2 (pa_cons (pv 2) pa_nil)) (pg_name (i := 3) scCross2.nd rfl (Or.inl rfl))
        (pss_one (ps_for PassesOwn.never rfl (pi_range2 rfl m2 (pa_cons (pe_op op_add (pv 3) pe_int) (pa_cons (pv 2) pa_nil))) (pg_name (i := 4) scCross2.nd rfl (Or.inl rfl))
          (pss_one (ps_if (PW.pt (pw_and (pt_cmpR op_ne (pe_op op_modN (pe_op op_add (pv 4) pe_int) (pv 2)) (pv 3) (nomark _))
            (pw_and1 (pt_val (pe_cal C2 hr rfl (pa_cons (pe_ix ix_list (pv 1) (pv 3) (fun _ _ => rfl)) (pa_cons (pe_ix ix_list (pv 1) (pv 4) (fun _ _ => rfl)) pa_nil))))))) (pss_one ps_never) pss_nil))))))), ?_⟩
    refine ⟨_, rfl, false, ca, xs, ps, rfl, hc, hp, h60, fun H1 D es s1 hD _ hE => ?_⟩
    refine ⟨_, rfl, D, _, rfl, .inl (SqL.of hD), ?_⟩
    have he : es.length = ps.length := hE.1
    rw [he]
    refine ⟨_, rfl, _, rfl, by omega, by omega, for_range (lo := 0) (n := ((ps.length : Int)).toNat) (fun _ σ H' => Same H1 H' ∧ ∃ a1 a2, σ = [some (.ref ca), some (.ref D), some (.int ps.length), a1, a2]) ⟨Same.refl _, _, _, rfl⟩ ?_ (fun σ H' h => k _ (s1.trans h.1))⟩
    rintro i σ H' hi ⟨s2, a1, a2, rfl⟩
    have hi : i < ps.length := by omega
    have e0 : (0 : Int) + (i : Nat) = (i : Int) := by omega
    show tFor _ _ _ _ _ _
    refine ⟨_, rfl, _, _, rfl, rfl, _, rfl, _, _, rfl, ⟨by omega, by omega, by omega, by omega⟩, for_range (lo := 0 + (i : Int) + 2) (n := ((ps.length : Int) - (0 + (i : Int) + 2)).toNat) (fun _ σ H' => Same H1 H' ∧ ∃ a2, σ = [some (.ref ca), some (.ref D), some (.int ps.length), some (.int (0 + (i : Nat))), a2]) ⟨s2, _, rfl⟩ ?_ (fun σ H' h => ⟨h.1, _, h.2.imp fun _ e => e⟩)⟩
    rintro j σ H' hj ⟨s2, a2, rfl⟩
    obtain ⟨q, hq⟩ : ∃ q : Nat, q = i + 2 + j := ⟨_, rfl⟩
    have hqn : q < ps.length := by omega
    have ej : (i : Int) + 2 + (j : Int) = (q : Int) := by omega
    rw [e0] at *
    refine ⟨_, rfl, _, _, rfl, rfl, _, rfl, _, _, rfl, rfl, by omega, _, rfl, rfl, _, rfl, ?_⟩
    have em : ((i : Int) + 2 + (j : Int) + 1).fmod (ps.length : Int) = (((q + 1) % ps.length : Nat) : Int) := by
      rw [ej, Int.fmod_eq_emod_of_nonneg _ (by omega)]; rfl
    refine ite2 (fun z => ?_) (fun _ => iteF ⟨s2, _, rfl⟩)
    have hne : (q + 1) % ps.length ≠ i := fun w => by
      have z' : decide (V.int (((i : Int) + 2 + (j : Int) + 1).fmod (ps.length : Int)) = V.int (i : Int)) = false := by
        revert z
        show (!decide (V.int (((i : Int) + 2 + (j : Int) + 1).fmod (ps.length : Int)) = V.int (i : Int))) = true → _
        cases decide (V.int (((i : Int) + 2 + (j : Int) + 1).fmod (ps.length : Int)) = V.int (i : Int)) <;> simp
      rw [em, w] at z'
      exact of_decide_eq_false z' rfl
    have hEs := hE.keep (Keep.of s2)
    obtain ⟨t1, a, b, x1, x2, x3, x4⟩ := hEs.2 i hi
    obtain ⟨t2, c, d, y1, y2, y3, y4⟩ := hEs.2 q hqn
    have hnx : (q + 1) % ps.length < ps.length := Nat.mod_lt _ (by omega)
    have ei : (i + 1) % ps.length = i + 1 := Nat.mod_eq_of_lt (by omega)
    rw [ei] at x4
    have q1 := cv.left i q hi hqn (by omega) (by omega)
    have q2 := cv.left i ((q + 1) % ps.length) hi hnx hne (fun w => by
      rw [ei] at w
      rcases Nat.lt_or_ge (q + 1) ps.length with h1 | h1
      · rw [Nat.mod_eq_of_lt h1] at w; omega
      · rw [show q + 1 = ps.length by omega, Nat.mod_self] at w; omega)
    have q3 := cv.left q i hqn hi (by omega) (Ne.symm hne)
    have q4 := cv.left q (i + 1) hqn (by omega) (by omega) (fun w => by
      rcases Nat.lt_or_ge (q + 1) ps.length with h1 | h1
      · rw [Nat.mod_eq_of_lt h1] at w; omega
      · rw [show q + 1 = ps.length by omega, Nat.mod_self] at w; omega)
    rw [ei] at q1 q2
    refine ⟨_, rfl, _, rfl, D, es, _, _, rfl, rfl, SqL.of (s2 _ _ hD), atI_nat x1, _, rfl, _, rfl, D, es, _, _, rfl, rfl, SqL.of (s2 _ _ hD), by rw [ej]; exact atI_nat y1, ?_⟩
    exact ⟨t1, t2, a, b, c, d, _, _, _, _, rfl, x2, y2, x3, x4, y3, y4, cv.bd _ hi, cv.bd _ (by omega), cv.bd _ hqn, cv.bd _ hnx, q1, q2, q3, q4, fun H4 s4 => ⟨_, rfl, iteF ⟨s2.trans s4, _, rfl⟩⟩⟩
theorem scArea : FnScope ["corners", "start", "end"] ["corners"] (defScope sArea) := ⟨rfl, rfl, rfl, by decide +kernel, rfl, by decide +kernel, by decide +kernel⟩
def spArea : Sp := fun vs H Q _ => ∃ ca xs ps, vs = [.ref ca] ∧ H ca = some (.lst xs) ∧ TPs H xs ps ∧ Cv ps ∧ ∀ (A : Int) H', 0 < A → Same H H' → Q (.int A) H'
theorem ok_area {f : Addr} {fd : FuncData} (F : Fun K "area_of" "area_of" sArea f fd) (C : Cal P w K mg base 1 "edges_of" ["corners"] spEdges) (C2 : Cal P w K mg base 1 "cross_of" ["first", "second"] spCross) (m1 : mg "sum" = none) : FnOk P w K mg base CX0 2 f fd ["corners"] spArea := by
  refine F.ok scArea (fun vs H Q E h => ?_) (fun cdv A outer s H vs Q E hr h => ?_)
  · obtain ⟨_, _, _, rfl, _⟩ := h; rfl
  · obtain ⟨ca, xs, ps, rfl, hc, hp, cv, k⟩ := h
    refine ⟨_, pss_one (ps_ret (pe_callB (cr_sum rfl) (by rfl) m1 (by decide +kernel) (pa_cons (pe_lc (own := [("start", 1), ("end", 2)]) (tt := tYes) rfl scArea.nd (pi_list (pe_cal C hr rfl (pa_cons (pv 0) pa_nil))) (blkOk_by (own := [("start", 1), ("end", 2)]) (N := ["corners", "start", "end"]) (sc := defScope sArea) (by decide +kernel))
      (fun _ _ _ _ _ => pg_tupK 2 K rfl (pgs_cons (pg_name (i := 1) scArea.nd rfl (Or.inl rfl)) (pgs_cons (pg_name (i := 2) scArea.nd rfl (Or.inl rfl)) pgs_nil))) (fun _ _ _ _ _ => pts_nil)
      (fun _ _ _ _ _ => pe_cal C2 hr rfl (pa_cons (pv 1) (pa_cons (pv 2) pa_nil)))) pa_nil))), ?_⟩
    refine ⟨_, rfl, false, ca, xs, ps, rfl, hc, hp, cv.few, fun H1 E1 es s1 hE1 _ hE => ?_⟩
    refine ⟨E1, rfl, ⟨_, SqL.of hE1⟩, fun D hD => lc_list (xs := es) (fun i H' => H' = upd H1 D (.lst ((arS ps i).map V.int))) rfl (fun i H' _ e => ?_) (fun i x H' hx e => ?_) (fun H' e => ?_)⟩
    · subst e
      exact SqL.of (Same.new hD _ _ hE1)
    · subst e
      have hi : i < ps.length := by rw [← hE.1]; exact (List.getElem?_eq_some_iff.mp hx).1
      have kD : Same H1 (upd H1 D (.lst ((arS ps i).map V.int))) := Same.new hD
      obtain ⟨t, a, b, x1, x2, x3, x4⟩ := (hE.keep (Keep.of kD)).2 i hi
      obtain rfl : x = .ref t := Option.some.inj (hx.symm.trans x1)
      refine ⟨t, _, rfl, SqT.of x2, rfl, _, _, rfl, _, _, rfl, rfl, rfl, tyes ?_⟩
      refine ⟨_, rfl, _, rfl, a, b, _, _, rfl, x3, x4, (cv.bd _ hi).up (by decide), _, upd_same, ?_, ?_⟩
      · have h60 := cv.few
        unfold arS
        simp only [List.length_map, List.length_range]
        exact smallLine (by omega)
      · rw [upd_upd]
        unfold arS
        rw [List.range_succ, List.map_append, List.map_append]
        rfl
    · subst e
      rw [hE.1]
      exact ⟨D, arS ps ps.length, rfl, SqL.of upd_same, k _ _ (area_pos cv) (s1.trans (Same.new hD))⟩
end
end Lat

/-! Gy1: min of points, points by >. -/
namespace Lat
open PySem PySem.Spec PyProof.Rows L2 Geo Gx
instance decLx (p q : Pt) : Decidable (Lx p q) := by unfold Lx; infer_instance
def dP (p : Pt) : PyData := .tuple [.int p.1, .int p.2]
theorem dP_lt (p q : Pt) : PySem.W.dataLt (dP p) (dP q) = decide (Lx p q) := PySem.W.dataLt_ii p.1 p.2 q.1 q.2
theorem dP_inj {p q : Pt} (h : dP p = dP q) : p = q := by
  obtain ⟨a, b⟩ := p
  obtain ⟨c, d⟩ := q
  unfold dP at h
  injection h with h
  injection h with h1 h
  injection h with h2 _
  injection h1 with h1
  injection h2 with h2
  simp only at h1 h2
  rw [h1, h2]
theorem dP_alike (p q : Pt) : PySem.W.alike (dP p) (dP q) = true := by
  unfold dP
  simp only [PySem.W.alike, PySem.W.alikeAll]
  rfl
theorem dP_depth : ∀ ps : List Pt, PyData.depthAll (ps.map dP) ≤ 1
  | [] => by decide
  | p :: ps => by
    rw [List.map_cons]
    have := dP_depth ps
    simp only [PyData.depthAll, PyData.depth, dP]
    omega
theorem dP_all (ps : List Pt) : PySem.W.AlikeAll (ps.map dP) := by
  refine ⟨fun x hx y hy => ?_, fun x hx => ?_⟩
  · obtain ⟨p, _, rfl⟩ := List.mem_map.mp hx
    obtain ⟨q, _, rfl⟩ := List.mem_map.mp hy
    exact dP_alike p q
  · obtain ⟨p, _, rfl⟩ := List.mem_map.mp hx
    exact fun z => nomatch z
theorem minD_pts : ∀ (ps : List Pt) (p : Pt), ∃ m, PySem.W.minD (dP p) (ps.map dP) = dP m ∧ m ∈ p :: ps ∧ ∀ q ∈ p :: ps, ¬ Lx q m
  | [], p => ⟨p, rfl, List.mem_cons_self, fun q hq => by rw [List.mem_singleton.mp hq]; exact lx_irrefl⟩
  | q :: qs, p => by
    have e : PySem.W.minD (dP p) ((q :: qs).map dP) = PySem.W.minD (if PySem.W.dataLt (dP q) (dP p) = true then dP q else dP p) (qs.map dP) := rfl
    rw [e, dP_lt]
    by_cases hq : Lx q p
    · rw [decide_eq_true hq, if_pos rfl]
      obtain ⟨m, e1, e2, e3⟩ := minD_pts qs q
      refine ⟨m, e1, List.mem_cons_of_mem _ e2, fun r hr => ?_⟩
      rcases List.mem_cons.mp hr with rfl | hr
      · intro z
        have h1 := e3 q List.mem_cons_self
        exact h1 (lx_trans hq z)
      · exact e3 r hr
    · rw [decide_eq_false hq, if_neg Bool.false_ne_true]
      obtain ⟨m, e1, e2, e3⟩ := minD_pts qs p
      refine ⟨m, e1, ?_, fun r hr => ?_⟩
      · rcases List.mem_cons.mp e2 with rfl | e2
        · exact List.mem_cons_self
        · exact List.mem_cons_of_mem _ (List.mem_cons_of_mem _ e2)
      · rcases List.mem_cons.mp hr with rfl | hr
        · exact e3 _ List.mem_cons_self
        · rcases List.mem_cons.mp hr with rfl | hr
          · intro z
            have h1 := e3 p List.mem_cons_self
            unfold Lx at hq h1 z
            omega
          · exact e3 r (List.mem_cons_of_mem _ hr)
theorem TPs.dp {K : PySem.W.Frag} {H : Hp} : ∀ {vs ps}, TPs H vs ps → DpAll K H vs (ps.map dP)
  | _, _, .nil => .nil
  | _, _, .cons a b => .cons (dp_pt a) (TPs.dp b)
section
variable {X : Cx}
/-- min(xs), xs a list of points -/
def rMinP (K : PySem.W.Frag) : List V → Hp → VK → Prop := fun vs H Q => ∃ (a : Addr) (xs : List V) (ps : List Pt), vs = [.ref a] ∧ SqL K H a xs ∧ TPs H xs ps ∧ ps ≠ [] ∧
  ∀ (i : Nat) v, xs[i]? = some v → (∀ q ∈ ps, ¬ Lx q (at' ps i)) → Q v H
theorem cr_minP (hc : X.calm = true) (hu : X.A.units + 64 < cLine) : CallR X (.builtin "min") (rMinP X.K) := by
  intro pins s σ H vs us Q I r h
  obtain ⟨a, xs, ps, rfl, hs, hp, hne, q⟩ := h
  obtain ⟨its, rv, hl, hz⟩ := I.list hs
  rw [Vals.ref1 r]
  obtain ⟨as, rd⟩ := Dp.readsAll I (ps.map dP) xs its hp.dp rv
  obtain ⟨p, pr, rfl⟩ : ∃ p pr, ps = p :: pr := by
    cases ps with
    | nil => exact absurd rfl hne
    | cons p pr => exact ⟨p, pr, rfl⟩
  have hd := dP_depth (p :: pr)
  refine PySem.W.min_list_data (x := dP p) (xs := pr.map dP) (I.ok.hd hc) hl.isList (by simpa using rd) (dP_all (p :: pr)) (by show X.A.units + 1 + PyData.depthAll ((p :: pr).map dP) < cLine; omega) fun i v h' tk bs hv hr hk => ?_
  obtain ⟨m, e1, e2, e3⟩ := minD_pts pr p
  rw [e1] at hr
  have hv' : its[i]? = some v := by simpa using hv
  have hi : i < xs.length := by rw [rv.length]; exact (List.getElem?_eq_some_iff.mp hv').1
  obtain ⟨w, ew, rw'⟩ := rv.get (List.getElem?_eq_getElem hi)
  obtain rfl : w = v := Option.some.inj (ew.symm.trans hv')
  refine ⟨xs[i], H, I.kept hk, rw', q i _ (List.getElem?_eq_getElem hi) ?_⟩
  obtain ⟨_, ht⟩ := hp.at (List.getElem?_eq_getElem hi)
  obtain ⟨cs, r2⟩ := Dp.reads I _ _ _ (dp_pt ht) rw'
  have ee : dP m = dP (at' (p :: pr) i) := (PyProof.Rows.reads_det (fun b o e _ => hk b o e) r2 hr).1
  rw [← dP_inj ee]
  exact e3
/-- t > u, points -/
def rGtP : R2 := fun x y H Q => ∃ p q, TP H x p ∧ TP H y q ∧ Q (.bl (decide (Lx q p))) H
theorem op_gtP (hu : X.A.units + 64 < cLine) : OpR X (compareOp .Gt) rGtP := by
  intro pins s σ H x y v u Q I rx ry h
  obtain ⟨p, q, hp, hq, k⟩ := h
  obtain ⟨as, r1⟩ := Dp.reads I (dP p) x v (dp_pt hp) rx
  obtain ⟨bs, r2⟩ := Dp.reads I (dP q) y u (dp_pt hq) ry
  refine PySem.W.gt_data r1 r2 (dP_alike p q) (fun z => nomatch z) ?_ ?_
  · have : (dP p).depth = 1 := rfl
    omega
  · rw [dP_lt]
    exact ⟨.bl _, H, I, rfl, k⟩
end
end Lat

/-! D8: arranged, checked_corners. -/
namespace Lat
open PySem PySem.Spec PyProof.Rows L2 Geo Gx
abbrev sArr : Stmt := top 29
abbrev sChecked : Stmt := top 30
theorem dP_lay : ∀ ps : List Pt, PyData.canLayAll0 (ps.map dP) = true
  | [] => by simp [PyData.canLayAll0]
  | p :: ps => by
    rw [List.map_cons]
    have := dP_lay ps
    simp only [PyData.canLayAll0, this, Bool.and_true]
    rfl
theorem dP_shaped (ps : List Pt) : SeqAt.shaped (.list (ps.map dP)) = true := by
  have h := dP_depth ps
  unfold SeqAt.shaped
  rw [Bool.and_eq_true]
  refine ⟨dP_lay ps, decide_eq_true ?_⟩
  show PyData.depthAll (ps.map dP) + 1 ≤ 64
  omega
theorem dP_shapedT (ps : List Pt) : SeqAt.shaped (.tuple (ps.map dP)) = true := by
  have h := dP_depth ps
  unfold SeqAt.shaped
  rw [Bool.and_eq_true]
  refine ⟨dP_lay ps, decide_eq_true ?_⟩
  show PyData.depthAll (ps.map dP) + 1 ≤ 64
  omega
theorem un65 {A : Around} {k : Nat} (r : Room k A) (h : 1 ≤ k) : A.units + 65 < cLine := by have := r.un; omega
section
variable {P : Program} {w : World} {K : PySem.W.Frag} {mg : Str → Option Value} {base : Heap}
theorem scArr : FnScope ["corners", "ordered", "first"] ["corners"] (defScope sArr) := ⟨rfl, rfl, rfl, by decide +kernel, rfl, by decide +kernel, by decide +kernel⟩
def spArr : Sp := fun vs H Q _ => ∃ ca xs ps, vs = [.ref ca] ∧ H ca = some (.lst xs) ∧ TPs H xs ps ∧ Cv ps ∧ (∀ k, 0 < k → k < ps.length → Lx (at' ps 0) (at' ps k)) ∧ ∀ D H', Same H H' → H D = none → H' D = some (.tup xs) → Q (.ref D) H'
theorem ok_arr {f : Addr} {fd : FuncData} (F : Fun K "arranged" "arranged" sArr f fd) (C : Cal P w K mg base 2 "area_of" ["corners"] spArea) (m1 : mg "list" = none) (m2 : mg "min" = none) (m3 : mg "tuple" = none) : FnOk P w K mg base CX0 3 f fd ["corners"] spArr := by
  refine F.ok scArr (fun vs H Q E h => ?_) (fun cdv A outer s H vs Q E hr h => ?_)
  · obtain ⟨_, _, _, rfl, _⟩ := h; rfl
  · obtain ⟨ca, xs, ps, rfl, hc, hp, cv, hlx, k⟩ := h
    have h3 := cv.three
    have h60 := cv.few
    have el := hp.len
    refine ⟨_, pss_cons (ps_set (i := 1) scArr.nd rfl (Or.inl rfl) (pe_ifExp (pt_cmpR op_gt (pe_cal C hr rfl (pa_cons (pv 0) pa_nil)) pe_int (nomark _)) (pe_callTy call_list_of (by rfl) m1 (by decide +kernel) (pa_cons (pv 0) pa_nil)) pe_nvr))
      (pss_cons (ps_set (i := 2) scArr.nd rfl (Or.inl rfl) (pe_bm PySem.F.plainAttrs_list PySem.F.slot_list_index PySem.F.type_list_index (mt_indexD (un65 hr (by decide))) (pv 1) (pa_cons (pe_callB (cr_minP rfl hr.units) (by rfl) m2 (by decide +kernel) (pa_cons (pv 1) pa_nil)) pa_nil)))
      (pss_one (ps_ret (pe_callTy call_tuple_of (by rfl) m3 (by decide +kernel) (pa_cons (pe_op op_cat (pe_slice sl_list (pv 1) (po_some (pv 2)) po_none) (pe_slice sl_list (pv 1) po_none (po_some (pv 2)))) pa_nil))))), ?_⟩
    refine ⟨_, rfl, ca, xs, ps, rfl, hc, hp, cv, fun A0 H1 hA s1 => ?_⟩
    refine ⟨_, _, rfl, rfl, _, rfl, ?_⟩
    show if decide (A0 > 0) = true then _ else _
    rw [decide_eq_true hA]
    refine iteT ⟨_, rfl, ca, xs, rfl, .inl (SqL.of (s1 _ _ hc)), fun L hL => ?_⟩
    have s2 : Same H (upd H1 L (.lst xs)) := s1.trans (Same.new hL)
    have hp2 := hp.keep (Keep.of s2)
    refine ⟨_, rfl, .inl ⟨rfl, _, SqL.of upd_same⟩, _, rfl, L, xs, ps, rfl, SqL.of upd_same, hp2, (fun z => by rw [z] at h3; simp at h3), fun i v hv hm => ?_⟩
    obtain ⟨hi, hvt⟩ := hp2.at hv
    have e0 : i = 0 := by
      rcases Nat.eq_zero_or_pos i with h | h
      · exact h
      · exact absurd (hlx i h hi) (hm _ (at_mem (by omega)))
    subst e0
    refine ⟨L, v, dP (at' ps 0), ps.map dP, 0, dP (at' ps 0), rfl, rfl, .lst (SqL.of upd_same) hp2.dp, dp_pt hvt, dP_shaped ps, rfl, ?_, ?_, fun m z hm => by omega, ?_⟩
    · rw [List.getElem?_map, at_get hi]; rfl
    · exact (eqv_pt).trans (decide_eq_true rfl)
    · have c1 : cutV xs (some (0 : Int)) none = xs := by
        unfold cutV
        rw [show (some (0 : Int)) = some ((0 : Nat) : Int) from rfl, HT.sIx_nat, HT.sIx_none]
        simp
      have c2 : cutV xs none (some (0 : Int)) = [] := by
        unfold cutV
        rw [show (some (0 : Int)) = some ((0 : Nat) : Int) from rfl, HT.sIx_nat, HT.sIx_none]
        simp
      refine ⟨_, rfl, _, rfl, _, rfl, L, xs, rfl, SqL.of upd_same, fun D1 hD1 => ?_⟩
      have n1 : L ≠ D1 := ne_of_none upd_same hD1
      refine ⟨_, rfl, _, rfl, _, rfl, L, xs, rfl, SqL.of (by rw [upd_ne n1]; exact upd_same), fun D2 hD2 => ?_⟩
      have n2 : D1 ≠ D2 := ne_of_none upd_same hD2
      refine ⟨D1, D2, xs, [], rfl, rfl, by rw [upd_ne n2, upd_same]; exact congrArg _ (congrArg _ c1), by rw [upd_same]; exact congrArg _ (congrArg _ c2), smallLe (by simp; omega), fun D3 hD3 => ?_⟩
      rw [List.append_nil]
      refine ⟨D3, xs, rfl, .inl ⟨SqL.of upd_same, fun D4 hD4 => ?_⟩⟩
      have sf := (((s2.trans (Same.new hD1)).trans (Same.new hD2)).trans (Same.new hD3)).trans (Same.new (o := .tup xs) hD4)
      exact k D4 _ sf (Same.free ((((s2.trans (Same.new hD1)).trans (Same.new hD2)).trans (Same.new hD3))) hD4) upd_same
end
end Lat

/-! D9: checked_corners, Polygon. -/
namespace Lat
open PySem PySem.Spec PyProof.Rows L2 Geo Gx
abbrev sPolyInit : Stmt := inClass (top 33) 1
abbrev sPolyCorners : Stmt := inClass (top 33) 5
abbrev sChkPoly : Stmt := top 34
/-- what is known of the class Polygon -/
structure PoT (K : PySem.W.Frag) (mg : Str → Option Value) (C : Addr) : Prop where
  cl : Cls K C
  nK : NoAttr K C "kept"
  nR : NoAttr K C "reflex"
  mgC : mg "Polygon" = some (.ref C)
  mx : ∃ mc t, ClX.CRead K C mc ∧ ClX.CVal K C mc "MAX_CORNERS" (.int 60) (.int 60 t)
  ki : PySem.W.kitOne K (.ref C) (.ref C) = some true
  hC : PySem.W.findIn K (.ref C) "__class__" = some (some (.builtin "object.__class__"))
  hG : PySem.W.specialIn K (.builtin "object.__class__") "__get__" = some (some (.builtin "getset_descriptor.__get__"))
  hT : PySem.W.takesIn K (.builtin "object.__class__") = some true
  hO : PySem.W.mroIn K C (.type "object") = some true
/-- a polygon at p: its corners at vs -/
def PolyAt (C : Addr) (H : Hp) (p : Addr) (ps : List Pt) : Prop := ∃ dx fs D vs, H p = some (.ins C dx fs) ∧ fs.lookup ("kept" : Str) = some (.ref D) ∧ H D = some (.tup vs) ∧ TPs H vs ps
theorem PolyAt.same {C : Addr} {H H' : Hp} {p : Addr} {ps : List Pt} (h : PolyAt C H p ps) (s : Same H H') : PolyAt C H' p ps :=
  let ⟨dx, fs, D, vs, a, b, c, d⟩ := h; ⟨dx, fs, D, vs, s _ _ a, b, s _ _ c, d.keep (Keep.of s)⟩
section
variable {P : Program} {w : World} {K : PySem.W.Frag} {mg : Str → Option Value} {base : Heap} {C : Addr}
theorem scChecked : FnScope ["corners", "limit"] ["corners", "limit"] (defScope sChecked) := ⟨rfl, rfl, rfl, by decide +kernel, rfl, by decide +kernel, by decide +kernel⟩
def spChecked : Sp := fun vs H Q _ => ∃ ca xs ps, vs = [.ref ca, .int 60] ∧ H ca = some (.lst xs) ∧ TPs H xs ps ∧ Cv ps ∧ (∀ k, 0 < k → k < ps.length → Lx (at' ps 0) (at' ps k)) ∧ ∀ D H', Same H H' → H D = none → H' D = some (.tup xs) → Q (.ref D) H'
theorem ok_checked {f : Addr} {fd : FuncData} (F : Fun K "checked_corners" "checked_corners" sChecked f fd) (C1 : Cal P w K mg base 3 "check_points" ["value"] spChkPts) (C2 : Cal P w K mg base 3 "check_turns" ["corners"] spChkTurns) (C3 : Cal P w K mg base 5 "check_crossings" ["corners"] spCross2)
    (C4 : Cal P w K mg base 3 "arranged" ["corners"] spArr) (m1 : mg "isinstance" = none) (m2 : mg "list" = none) (m3 : mg "tuple" = none) (m4 : mg "len" = none) (mm : ∃ t, mg "MIN_CORNERS" = some (.int 3 t)) : FnOk P w K mg base CX0 6 f fd ["corners", "limit"] spChecked := by
  obtain ⟨tm, mm⟩ := mm
  refine F.ok scChecked (fun vs H Q E h => ?_) (fun cdv A outer s H vs Q E hr h => ?_)
  · obtain ⟨_, _, _, rfl, _⟩ := h; rfl
  · obtain ⟨ca, xs, ps, rfl, hc, hp, cv, hlx, k⟩ := h
    have h3 := cv.three
    have h60 := cv.few
    have el := hp.len
    refine ⟨_, pss_cons (ps_if (PW.pt (pw_or (pt_not (pt_val (pe_callB call_isiT (by rfl) m1 (by decide +kernel) (pa_cons (pv 0) (pa_cons (pe_tup (pa_cons (pe_bltn (v := .ty "list") (by rfl) m2 (by decide +kernel) rfl) (pa_cons (pe_bltn (v := .ty "tuple") (by rfl) m3 (by decide +kernel) rfl) pa_nil))) pa_nil)))))
        (pw_or1 (pt_not (pt_chain op_le op_le (pe_glob (v := .int 3) (by rfl) mm ⟨_, rfl⟩) (pe_callB call_len_seq (by rfl) m4 PySem.boot_len (pa_cons (pv 0) pa_nil)) (pv 1)))))) (pss_one ps_never) pss_nil)
      (pss_cons (ps_expr (pe_cal C1 (hr.mono (by decide)) rfl (pa_cons (pv 0) pa_nil))) (pss_cons (ps_expr (pe_cal C2 (hr.mono (by decide)) rfl (pa_cons (pv 0) pa_nil))) (pss_cons (ps_expr (pe_cal C3 hr rfl (pa_cons (pv 0) pa_nil)))
      (pss_one (ps_ret (pe_cal C4 (hr.mono (by decide)) rfl (pa_cons (pv 0) pa_nil))))))), ?_⟩
    refine ⟨_, rfl, by show 2 ≤ sizeLine; decide, fun d hd => ?_⟩
    have s0 : Same H (upd H d (.tup [.ty "list", .ty "tuple"])) := Same.new hd
    refine ⟨.ref ca, d, _, _, [.type "list", .type "tuple"], true, rfl, upd_same, .cons (.ty _) (.cons (.ty _) .nil), ty_sq (b := false) (xs := xs) (s0 _ _ hc), kit_lt (b := false), true, rfl, iteF ?_⟩
    refine ⟨_, rfl, ca, xs, rfl, .inl (SqL.of (s0 _ _ hc)), _, _, rfl, rfl, _, rfl, ?_⟩
    have e1 : decide ((3 : Int) ≤ (xs.length : Int)) = true := decide_eq_true (by omega)
    show if decide ((3 : Int) ≤ (xs.length : Int)) = true then _ else _
    rw [e1]
    refine iteT ⟨_, rfl, _, _, rfl, rfl, _, rfl, ?_⟩
    have e2 : decide ((xs.length : Int) ≤ 60) = true := decide_eq_true (by omega)
    show if (!decide ((xs.length : Int) ≤ 60)) = true then _ else _
    rw [e2]
    refine iteF ?_
    refine ⟨_, rfl, false, ca, xs, ps, rfl, s0 _ _ hc, hp.keep (Keep.of s0), fun H1 s1 => ?_⟩
    have s1 := s0.trans s1
    refine ⟨_, rfl, ca, xs, ps, rfl, s1 _ _ hc, hp.keep (Keep.of s1), cv, fun H2 s2 => ?_⟩
    have s2 := s1.trans s2
    refine ⟨_, rfl, ca, xs, ps, rfl, s2 _ _ hc, hp.keep (Keep.of s2), cv, fun H3 s3 => ?_⟩
    have s3 := s2.trans s3
    exact ⟨_, rfl, ca, xs, ps, rfl, s3 _ _ hc, hp.keep (Keep.of s3), cv, hlx, fun D H4 s4 hD hT => k D H4 (s3.trans s4) (s3.free hD) hT⟩
end
end Lat

/-! D10: Polygon's defs, the widths. -/
namespace Lat
open PySem PySem.Spec PyProof.Rows L2 Geo Gx
abbrev sWAl : Stmt := top 36
abbrev sWIn : Stmt := top 37
theorem kr_ : ¬ (("kept" : Str) = "reflex") := by decide +kernel
theorem dt_comm (p q : Pt) : dt p q = dt q p := by unfold dt; grind
section
variable {P : Program} {w : World} {K : PySem.W.Frag} {mg : Str → Option Value} {base : Heap} {C : Addr}
theorem scPolyInit : FnScope ["self", "corners"] ["self", "corners"] (defScope sPolyInit) := ⟨rfl, rfl, rfl, by decide +kernel, rfl, by decide +kernel, by decide +kernel⟩
def spPolyInit (C : Addr) : Sp := fun vs H Q _ => ∃ p dx ca xs ps, vs = [.ref p, .ref ca] ∧ H p = some (.ins C dx []) ∧ H ca = some (.lst xs) ∧ TPs H xs ps ∧ Cv ps ∧ (∀ k, 0 < k → k < ps.length → Lx (at' ps 0) (at' ps k)) ∧
  ∀ H', (∀ b o, b ≠ p → H b = some o → H' b = some o) → PolyAt C H' p ps → Q .non H'
theorem ok_polyInit {f : Addr} {fd : FuncData} (F : Fun K "__init__" "Polygon.__init__" sPolyInit f fd) (T : PoT K mg C) (C1 : Cal P w K mg base 6 "checked_corners" ["corners", "limit"] spChecked) (C2 : Cal P w K mg base 3 "first_reflex" ["corners"] spReflex) :
    FnOk P w K mg base CX0 7 f fd ["self", "corners"] (spPolyInit C) := by
  obtain ⟨mc, tt, rd, cv60⟩ := T.mx
  refine F.ok scPolyInit (fun vs H Q E h => ?_) (fun cdv A outer s H vs Q E hr h => ?_)
  · obtain ⟨_, _, _, _, _, rfl, _⟩ := h; rfl
  · obtain ⟨p, dx, ca, xs, ps, rfl, hp, hc, ht, cv, hlx, k⟩ := h
    refine ⟨_, pss_cons (ps_fld (pv 0) (pe_cal C1 hr rfl (pa_cons (pv 1) (pa_cons (ClX.pe_cval (pe_glob (v := .ref C) (by rfl) T.mgC rfl)) pa_nil))) rfl)
      (pss_one (ps_fld (pv 0) (pe_cal C2 (hr.mono (by decide)) rfl (pa_cons (pe_fld (pv 0) rfl) pa_nil)) rfl)), ?_⟩
    refine ⟨_, rfl, C, mc, _, _, rfl, rd, cv60, ca, xs, ps, rfl, hc, ht, cv, hlx, fun D H1 s1 hD hT => ?_⟩
    refine ⟨_, rfl, p, C, dx, [], rfl, s1 _ _ hp, T.cl, T.nK, by decide, ?_⟩
    have hpD : D ≠ p := ne_of hT (s1 _ _ hp) (fun z => nomatch z)
    have k1 : Keep H (upd H1 p (.ins C dx (putF "kept" (.ref D) []))) := (Keep.of s1).trans (Keep.ins (s1 _ _ hp))
    have lk : (putF "kept" (V.ref D) []).lookup ("kept" : Str) = some (.ref D) := by rw [lookup_putF, if_pos rfl]
    refine ⟨_, rfl, p, C, dx, _, _, rfl, upd_same, T.cl, T.nK, lk, D, xs, ps, rfl, by rw [upd_ne hpD]; exact hT, ht.keep k1, cv, fun H2 s2 => ?_⟩
    refine ⟨_, rfl, p, C, dx, _, rfl, s2 _ _ upd_same, T.cl, T.nR, by show 1 < 1000; decide, ?_⟩
    have k2 := (k1.trans (Keep.of s2)).trans (Keep.ins (o := .ins C dx (putF "reflex" .non (putF "kept" (.ref D) []))) (s2 _ _ upd_same))
    refine k _ (fun b o hb e => ?_) ⟨dx, _, D, xs, upd_same, ?_, ?_, ht.keep k2⟩
    · rw [upd_ne hb]
      exact s2 _ _ (by rw [upd_ne hb]; exact s1 _ _ e)
    · rw [lookup_putF, if_neg kr_, lk]
    · rw [upd_ne hpD]
      exact s2 _ _ (by rw [upd_ne hpD]; exact hT)
theorem ok_polyCorners {f : Addr} {fd : FuncData} (F : Fun K "corners" "Polygon.corners" sPolyCorners f fd) (T : PoT K mg C) : FnOk P w K mg base CX0 1 f fd ["self"] (getSp C "kept") := by
  obtain ⟨oc, od, kV, doc, pm, an, cdv, ct, osl, rfl, lk, hcd⟩ := F.ex
  exact fn_getter (N := ["self"]) lk hcd ⟨rfl, rfl, rfl, by decide +kernel, rfl, by decide +kernel, by decide +kernel⟩ rfl rfl T.cl T.nK
theorem scChkPoly : FnScope ["value"] ["value"] (defScope sChkPoly) := ⟨rfl, rfl, rfl, by decide +kernel, rfl, by decide +kernel, by decide +kernel⟩
def spChkPoly (C : Addr) : Sp := fun vs H Q _ => ∃ p dx fs, vs = [.ref p] ∧ H p = some (.ins C dx fs) ∧ Q .non H
theorem ok_chkPoly {f : Addr} {fd : FuncData} (F : Fun K "check_polygon" "check_polygon" sChkPoly f fd) (T : PoT K mg C) (m1 : mg "isinstance" = none) : FnOk P w K mg base CX0 1 f fd ["value"] (spChkPoly C) := by
  refine F.ok scChkPoly (fun vs H Q E h => ?_) (fun cdv A outer s H vs Q E hr h => ?_)
  · obtain ⟨_, _, _, rfl, _⟩ := h; rfl
  · obtain ⟨p, dx, fs, rfl, hp, k⟩ := h
    refine ⟨_, pss_one (ps_if (pt_not (pt_val (pe_callB call_isi (by rfl) m1 (by decide +kernel) (pa_cons (pv 0) (pa_cons (pe_glob (v := .ref C) (by rfl) T.mgC rfl) pa_nil))))) (pss_one ps_never) pss_nil), ?_⟩
    exact ⟨_, rfl, .ref p, .ref C, .ref C, .ref C, true, rfl, .own _, .base (.ins hp T.cl T.hC T.hG T.hT T.hO), T.ki, true, rfl, iteF k⟩
theorem scWAl : FnScope ["corners", "direction", "values", "corner"] ["corners", "direction"] (defScope sWAl) := ⟨rfl, rfl, rfl, by decide +kernel, rfl, by decide +kernel, by decide +kernel⟩
def spWAl : Sp := fun vs H Q _ => ∃ ca v xs ps d, vs = [.ref ca, v] ∧ H ca = some (.tup xs) ∧ TPs H xs ps ∧ Cv ps ∧ TP H v d ∧ ∀ H', Same H H' → Q (.int (W ps d)) H'
theorem ok_wAl {f : Addr} {fd : FuncData} (F : Fun K "width_along" "width_along" sWAl f fd) (C1 : Cal P w K mg base 1 "dot_of" ["first", "second"] spDot) (m1 : mg "max" = none) (m2 : mg "min" = none) : FnOk P w K mg base CX0 2 f fd ["corners", "direction"] spWAl := by
  refine F.ok scWAl (fun vs H Q E h => ?_) (fun cdv A outer s H vs Q E hr h => ?_)
  · obtain ⟨_, _, _, _, _, rfl, _⟩ := h; rfl
  · obtain ⟨ca, v, xs, ps, d, rfl, hc, hp, cv, hd, k⟩ := h
    have h3 := cv.three
    have el := hp.len
    refine ⟨_, pss_cons (ps_setLc (i := 2) (own := [("corner", 3)]) (g := gName 3) (tt := tYes) rfl scWAl.nd rfl rfl (sw_true rfl rfl rfl (by decide +kernel)) (pi_tup (pv 0)) (blkOk_by (own := [("corner", 3)]) (N := ["corners", "direction", "values", "corner"]) (sc := defScope sWAl) (by decide +kernel))
        (fun _ _ _ _ _ => pg_name (i := 3) scWAl.nd rfl (Or.inl rfl)) (fun _ _ _ _ _ => pts_nil) (fun _ _ _ _ _ => pe_cal C1 hr rfl (pa_cons (pv 3) (pa_cons (pv 1) pa_nil))))
      (pss_one (ps_ret (pe_op op_sub (pe_callB (cr_max rfl) (by rfl) m1 (by decide +kernel) (pa_cons (pv 2) pa_nil)) (pe_callB (cr_min rfl) (by rfl) m2 (by decide +kernel) (pa_cons (pv 2) pa_nil))))), ?_⟩
    refine ⟨_, rfl, ca, rfl, ⟨_, SqT.of hc⟩, fun D hD => lc_tup (xs := xs) (fun i H' => H' = upd H D (.lst (((ps.map (dt d)).take i).map V.int))) rfl (fun i H' _ e => ?_) (fun i x H' hx e => ?_) (fun H' e => ?_)⟩
    · subst e
      exact SqT.of (Same.new hD _ _ hc)
    · subst e
      have hi : i < xs.length := (List.getElem?_eq_some_iff.mp hx).1
      have kD : Keep H (upd H D (.lst (((ps.map (dt d)).take i).map V.int))) := Keep.new hD
      obtain ⟨hi', hq⟩ := hp.at hx
      refine ⟨rfl, tyes ⟨_, rfl, _, rfl, x, v, at' ps i, d, rfl, hq.keep kD, hd.keep kD, (cv.bd _ hi').up (by decide), _, upd_same, ?_, ?_⟩⟩
      · have h60 := cv.few
        simp only [List.length_map, List.length_take]
        exact smallLine (by omega)
      · rw [upd_upd, dt_comm]
        have e : (ps.map (dt d)).take (i + 1) = (ps.map (dt d)).take i ++ [dt d (at' ps i)] := by
          rw [List.take_add_one, List.getElem?_map, at_get hi']
          rfl
        rw [e, List.map_append]
        rfl
    · subst e
      have e : (ps.map (dt d)).take xs.length = ps.map (dt d) := List.take_of_length_le (by rw [List.length_map]; omega)
      rw [e]
      have hl : 0 < (ps.map (dt d)).length := by rw [List.length_map]; omega
      refine ⟨_, rfl, D, ps.map (dt d), rfl, SqL.of upd_same, hl, fun m hm hle => ?_⟩
      refine ⟨_, rfl, D, ps.map (dt d), rfl, SqL.of upd_same, hl, fun n hn hge => ?_⟩
      refine ⟨_, _, rfl, rfl, ?_⟩
      have e1 := mx_uniq hm hle
      have e2 := mn_uniq hn hge
      have e3 : m - n = W ps d := by unfold W; rw [← e1, ← e2]
      show Q (.int (m - n)) _
      rw [e3]
      exact k _ (Same.new hD)
theorem scWIn : FnScope ["polygon", "direction"] ["polygon", "direction"] (defScope sWIn) := ⟨rfl, rfl, rfl, by decide +kernel, rfl, by decide +kernel, by decide +kernel⟩
def spWIn (C : Addr) : Sp := fun vs H Q _ => ∃ p v ps d, vs = [.ref p, v] ∧ PolyAt C H p ps ∧ Cv ps ∧ TP H v d ∧ d ≠ (0, 0) ∧ ∀ H', Same H H' → Q (.int (W ps d)) H'
/-- the property corners -/
structure CoT (P : Program) (w : World) (K : PySem.W.Frag) (mg : Str → Option Value) (base : Heap) (C : Addr) : Prop where
  ex : ∃ p g fd, PropOf K C "corners" p g ∧ FnOk P w K mg base CX0 1 g fd ["self"] (getSp C "kept") ∧ Binds K fd ["self"] []
theorem pe_corners {X : Cx} {e : Expr} {ta : TE} {pos : Pos} (T : PoT X.K X.mg C) (G : CoT X.prog X.w X.K X.mg X.base C) (hr : Room 2 X.A) (he : PE X e ta) (hab : attributeBase e "corners" X.env (eval e X.env) = eval e X.env) :
    PE X (.Attribute e "corners" pos) (tProp C (getSp C "kept") [] E0 ta) := by
  obtain ⟨p, g, fd, hp, F, hb⟩ := G.ex
  exact pe_prop he T.cl hp F hr hb .nil pass0 hab
theorem ok_wIn {f : Addr} {fd : FuncData} (F : Fun K "width_in" "width_in" sWIn f fd) (T : PoT K mg C) (G : CoT P w K mg base C) (C1 : Cal P w K mg base 1 "check_polygon" ["value"] (spChkPoly C)) (C2 : Cal P w K mg base 3 "check_direction" ["value"] spChkDir) (C3 : Cal P w K mg base 2 "width_along" ["corners", "direction"] spWAl) :
    FnOk P w K mg base CX0 4 f fd ["polygon", "direction"] (spWIn C) := by
  refine F.ok scWIn (fun vs H Q E h => ?_) (fun cdv A outer s H vs Q E hr h => ?_)
  · obtain ⟨_, _, _, _, rfl, _⟩ := h; rfl
  · obtain ⟨p, v, ps, d, rfl, hp, cv, hd, hne, k⟩ := h
    refine ⟨_, pss_cons (ps_expr (pe_cal C1 (hr.mono (by decide)) rfl (pa_cons (pv 0) pa_nil))) (pss_cons (ps_expr (pe_cal C2 hr rfl (pa_cons (pv 1) pa_nil)))
      (pss_one (ps_ret (pe_cal C3 (hr.mono (by decide)) rfl (pa_cons (pe_corners T G (hr.mono (by decide)) (pv 0) rfl) (pa_cons (pv 1) pa_nil)))))), ?_⟩
    obtain ⟨dx, fs, D, vs, h1, h2, h3, h4⟩ := hp
    refine ⟨_, rfl, p, dx, fs, rfl, h1, ?_⟩
    refine ⟨_, rfl, v, d, rfl, hd, hne, fun H1 s1 => ?_⟩
    refine ⟨_, rfl, p, dx, fs, rfl, s1 _ _ h1, p, dx, fs, _, rfl, s1 _ _ h1, h2, _, rfl, D, v, vs, ps, d, rfl, s1 _ _ h3, h4.keep (Keep.of s1), cv, hd.keep (Keep.of s1), fun H2 s2 => k _ (s1.trans s2)⟩
end
end Lat

/-! D11: widest_pair. -/
namespace Lat
open PySem PySem.Spec PyProof.Rows L2 Geo Gx
abbrev sWidest : Stmt := top 38
theorem turn_swap (a b c : Pt) : turn b a c = -turn a b c := by unfold turn; grind
theorem turn_same (a b : Pt) : turn a a b = 0 := by unfold turn; grind
theorem tri_all {ps : List Pt} {A : Nat} (h : ∀ i j k, i < j → j < k → k < ps.length → (turn (at' ps i) (at' ps j) (at' ps k)).natAbs ≤ A) : Tri ps (A : Nat) := by
  have key : ∀ i j k, i < ps.length → j < ps.length → k < ps.length → (turn (at' ps i) (at' ps j) (at' ps k)).natAbs ≤ A := by
    intro i j k hi hj hk
    have sw := turn_swap (at' ps i) (at' ps j) (at' ps k)
    have c1 := turn_cyc (at' ps i) (at' ps j) (at' ps k)
    have c2 := turn_cyc (at' ps j) (at' ps k) (at' ps i)
    have d1 := turn_cyc (at' ps j) (at' ps i) (at' ps k)
    have d2 := turn_cyc (at' ps i) (at' ps k) (at' ps j)
    rcases Nat.lt_trichotomy i j with a | a | a
    · rcases Nat.lt_trichotomy j k with b | b | b
      · exact h i j k a b hk
      · subst b
        have := turn_same (at' ps j) (at' ps i)
        omega
      · rcases Nat.lt_trichotomy i k with c | c | c
        · have := h i k j c b hj; omega
        · subst c
          have := turn_same (at' ps i) (at' ps j)
          omega
        · have := h k i j c a hj; omega
    · subst a
      have := turn_same (at' ps i) (at' ps k)
      omega
    · rcases Nat.lt_trichotomy i k with b | b | b
      · have := h j i k a b hk; omega
      · subst b
        have := turn_same (at' ps i) (at' ps j)
        omega
      · rcases Nat.lt_trichotomy j k with c | c | c
        · have := h j k i c b hi; omega
        · subst c
          have := turn_same (at' ps j) (at' ps i)
          omega
        · have := h k j i c a hi; omega
  intro x hx y hy z hz
  obtain ⟨i, hi, rfl⟩ := mem_at hx
  obtain ⟨j, hj, rfl⟩ := mem_at hy
  obtain ⟨k, hk, rfl⟩ := mem_at hz
  have := key i j k hi hj hk
  omega
/-- the widest pair of spans -/
structure Wd (ps : List Pt) (a b : Pt) : Prop where
  ex : ∃ p q r, p ∈ ps ∧ q ∈ ps ∧ r ∈ ps ∧ a = sb q p ∧ b = sb r p
  det : cr a b ≠ 0
  tri : Tri ps (cr a b).natAbs
theorem cutV_from (xs : List V) (k : Nat) : cutV xs (some (k : Int)) none = xs.drop k := by
  unfold cutV
  rw [HT.sIx_nat, HT.sIx_none]
  rcases Nat.lt_or_ge k xs.length with h | h
  · rw [Nat.min_eq_left (by omega)]
    exact List.take_of_length_le (by rw [List.length_drop]; omega)
  · rw [Nat.min_eq_right h, List.drop_of_length_le h]
    simp
/-- the best so far -/
def Best (H : Hp) (v : V) (A : Nat) (ps : List Pt) : Prop := ∃ T va vb, v = .ref T ∧ H T = some (.tup [.int A, va, vb]) ∧ (0 < A → ∃ a b p q r, TP H va a ∧ TP H vb b ∧ p ∈ ps ∧ q ∈ ps ∧ r ∈ ps ∧ a = sb q p ∧ b = sb r p ∧ A = (cr a b).natAbs)
theorem Best.same {H H' : Hp} {v : V} {A : Nat} {ps : List Pt} (h : Best H v A ps) (s : Same H H') : Best H' v A ps :=
  let ⟨T, va, vb, e, h1, h2⟩ := h
  ⟨T, va, vb, e, s _ _ h1, fun z => let ⟨a, b, p, q, r, x, y, z⟩ := h2 z; ⟨a, b, p, q, r, x.keep (Keep.of s), y.keep (Keep.of s), z⟩⟩
section
variable {P : Program} {w : World} {K : PySem.W.Frag} {mg : Str → Option Value} {base : Heap} {C : Addr}
theorem scWidest : FnScope ["corners", "best", "index", "corner", "spans", "place", "first", "second", "area", "other"] ["corners"] (defScope sWidest) := ⟨rfl, rfl, rfl, by decide +kernel, rfl, by decide +kernel, by decide +kernel⟩
def spWidest : Sp := fun vs H Q _ => ∃ ca xs ps, vs = [.ref ca] ∧ H ca = some (.tup xs) ∧ TPs H xs ps ∧ Cv ps ∧ ∀ D va vb a b H', Same H H' → H' D = some (.tup [va, vb]) → TP H' va a → TP H' vb b → Wd ps a b → Q (.ref D) H'
theorem ok_widest {f : Addr} {fd : FuncData} (F : Fun K "widest_pair" "widest_pair" sWidest f fd) (C1 : Cal P w K mg base 1 "difference" ["end", "start"] spDiff) (C2 : Cal P w K mg base 1 "cross_of" ["first", "second"] spCross) (m1 : mg "enumerate" = none) (m2 : mg "abs" = none) : FnOk P w K mg base CX0 2 f fd ["corners"] spWidest := by
  refine F.ok scWidest (fun vs H Q E h => ?_) (fun cdv A outer s H vs Q E hr h => ?_)
  · obtain ⟨_, _, _, rfl, _⟩ := h; rfl
  · obtain ⟨ca, xs, ps, rfl, hc, hp, cv, k⟩ := h
    have h3 := cv.three
    have h60 := cv.few
    have el := hp.len
    refine ⟨_, pss_cons (ps_set (i := 1) scWidest.nd rfl (Or.inl rfl) (pe_tup (pa_cons pe_int (pa_cons pe_non (pa_cons pe_non pa_nil)))))
      (pss_cons (ps_for PassesOwn.never rfl (pi_enumX true (by rfl) m1 (pa_cons (pv 0) pa_nil)) (pg_tup rfl (pgs_cons (pg_name (i := 2) scWidest.nd rfl (Or.inl rfl)) (pgs_cons (pg_name (i := 3) scWidest.nd rfl (Or.inr rfl)) pgs_nil)))
        (pss_cons (ps_setLc (i := 4) (own := [("other", 9)]) (g := gName 9) (tt := tYes) rfl scWidest.nd rfl rfl (sw_true rfl rfl rfl (by decide +kernel)) (pi_tup (pe_slice sl_tup (pv 0) (po_some (pe_op op_add (pv 2) pe_int)) po_none))
            (blkOk_by (own := [("other", 9)]) (N := ["corners", "best", "index", "corner", "spans", "place", "first", "second", "area", "other"]) (sc := defScope sWidest) (by decide +kernel))
            (fun _ _ _ _ _ => pg_name (i := 9) scWidest.nd rfl (Or.inl rfl)) (fun _ _ _ _ _ => pts_nil) (fun _ _ _ _ _ => pe_cal C1 hr rfl (pa_cons (pv 9) (pa_cons (pv 3) pa_nil))))
          (pss_one (ps_for PassesOwn.never rfl (pi_enumX false (by rfl) m1 (pa_cons (pv 4) pa_nil)) (pg_tup rfl (pgs_cons (pg_name (i := 5) scWidest.nd rfl (Or.inl rfl)) (pgs_cons (pg_name (i := 6) scWidest.nd rfl (Or.inl rfl)) pgs_nil)))
            (pss_one (ps_for PassesOwn.never rfl (pi_list (pe_slice sl_list (pv 4) (po_some (pe_op op_add (pv 5) pe_int)) po_none)) (pg_name (i := 7) scWidest.nd rfl (Or.inl rfl))
              (pss_cons (ps_set (i := 8) scWidest.nd rfl (Or.inl rfl) (pe_callB call_abs (by rfl) m2 (by decide +kernel) (pa_cons (pe_cal C2 hr rfl (pa_cons (pv 6) (pa_cons (pv 7) pa_nil))) pa_nil)))
                (pss_one (ps_if (pt_cmpR op_gt (pv 8) (pe_ix ix_tup (pv 1) pe_int (fun _ _ => rfl)) (nomark _)) (pss_one (ps_set (i := 1) scWidest.nd rfl (Or.inl rfl) (pe_tup (pa_cons (pv 8) (pa_cons (pv 6) (pa_cons (pv 7) pa_nil)))))) pss_nil)))))))))
      (pss_one (ps_ret (pe_slice sl_tup (pv 1) (po_some pe_int) po_none)))), ?_⟩
    refine ⟨by show 3 ≤ sizeLine; decide, fun T0 hT0 => ?_⟩
    have s0 : Same H (upd H T0 (.tup [.int 0, .non, .non])) := Same.new hT0
    refine ⟨_, rfl, ca, xs, rfl, SqT.of (s0 _ _ hc), for_en (b := true) (xs := xs) (fun i0 σ H' => Same H H' ∧ ∃ vb A a2 a3 a4 a5 a6 a7 a8 a9, σ = [some (.ref ca), some vb, a2, a3, a4, a5, a6, a7, a8, a9] ∧ Best H' vb A ps ∧ ∀ i j k, i < i0 → i < j → j < k → k < ps.length → (turn (at' ps i) (at' ps j) (at' ps k)).natAbs ≤ A)
      ⟨s0, _, 0, _, _, _, _, _, _, _, _, rfl, ⟨T0, _, _, rfl, upd_same, fun z => absurd z (Nat.lt_irrefl 0)⟩, fun i j k h => absurd h (Nat.not_lt_zero i)⟩ (fun i σ H' _ h => SqT.of (h.1 _ _ hc)) ?_ (fun σ H' h => ?_)⟩
    · rintro i x T σ H' hx ⟨s1, vb, A0, a2, a3, a4, a5, a6, a7, a8, a9, rfl, hB, hA⟩ hT
      obtain ⟨hi, hxi⟩ := hp.at hx
      have s2 := s1.trans (Same.new (o := .tup [.int (i : Nat), x]) hT)
      have hB2 := hB.same (Same.new (o := .tup [.int (i : Nat), x]) hT)
      refine ⟨T, _, rfl, SqT.of upd_same, rfl, _, _, rfl, _, _, rfl, rfl, ?_⟩
      have ei : ((i : Int) + 1) = ((i + 1 : Nat) : Int) := by omega
      have nw : ¬ (HT.sIx xs.length 0 (some ((i : Int) + 1)) = 0 ∧ HT.sIx xs.length xs.length none = xs.length) := fun z => by
        have z1 := z.1
        rw [ei, HT.sIx_nat] at z1
        omega
      refine ⟨_, rfl, _, rfl, _, _, rfl, rfl, _, rfl, ca, xs, rfl, SqT.of (s2 _ _ hc), nw, fun L hL => ?_⟩
      have s3 := s2.trans (Same.new (o := .tup (cutV xs (some ((i : Int) + 1)) none)) hL)
      have hB3 := hB2.same (Same.new (o := .tup (cutV xs (some ((i : Int) + 1)) none)) hL)
      have ec : cutV xs (some ((i : Int) + 1)) none = xs.drop (i + 1) := by rw [ei, cutV_from]
      rw [ec] at s3 hB3
      rw [show cutV xs (some ((i : Int) + 1)) none = xs.drop (i + 1) from ec]
      refine ⟨L, rfl, ⟨_, SqT.of upd_same⟩, fun D hD => lc_tup (xs := xs.drop (i + 1)) (fun m H2 => Same (upd (upd H' T (.tup [.int (i : Nat), x])) L (.tup (xs.drop (i + 1)))) H2 ∧ ∃ acc, H2 D = some (.lst acc) ∧ TPs H2 acc (((ps.drop (i + 1)).take m).map fun q => sb q (at' ps i)))
        ⟨Same.new hD, [], upd_same, .nil⟩ (fun m H2 _ h => SqT.of (h.1 _ _ upd_same)) (fun m y H2 hy h => ?_) (fun H2 h => ?_)⟩
      · obtain ⟨s4, acc, hacc, hta⟩ := h
        have s5 := s3.trans s4
        obtain ⟨hm, hyq⟩ := (hp.drop (i + 1)).at hy
        refine ⟨rfl, tyes ⟨_, rfl, _, rfl, y, x, _, _, rfl, hyq.keep (Keep.of s5), hxi.keep (Keep.of s5), fun t ht => ?_⟩⟩
        have s6 : Same H2 (upd H2 t (.tup [.int (sb (at' (ps.drop (i + 1)) m) (at' ps i)).1, .int (sb (at' (ps.drop (i + 1)) m) (at' ps i)).2])) := Same.new ht
        refine ⟨acc, s6 _ _ hacc, ?_, Same.over (s4.trans s6) hD, _, upd_same, ?_⟩
        · have := hta.len
          rw [this]
          simp only [List.length_map, List.length_take, List.length_drop]
          exact smallLine (by omega)
        · have e : ((ps.drop (i + 1)).take (m + 1)).map (fun q => sb q (at' ps i)) = (((ps.drop (i + 1)).take m).map fun q => sb q (at' ps i)) ++ [sb (at' (ps.drop (i + 1)) m) (at' ps i)] := by
            rw [List.take_add_one, at_get hm, List.map_append]
            rfl
          rw [e]
          have kL : Keep (upd H2 t (.tup [.int (sb (at' (ps.drop (i + 1)) m) (at' ps i)).1, .int (sb (at' (ps.drop (i + 1)) m) (at' ps i)).2])) _ := Keep.lst (o := .lst (acc ++ [.ref t])) (s6 _ _ hacc)
          exact ((hta.keep ((Keep.of s6).trans kL)).snoc ⟨t, rfl, by rw [upd_ne (ne_of upd_same (s6 _ _ hacc) (fun z => nomatch z)), upd_same]⟩)
      · obtain ⟨s4, sp, hsp, htp⟩ := h
        have s5 := s3.trans s4
        have hB5 := hB3.same s4
        have efull : (ps.drop (i + 1)).take (xs.drop (i + 1)).length = ps.drop (i + 1) := List.take_of_length_le (by rw [List.length_drop, List.length_drop]; omega)
        rw [efull] at htp
        have hsl : sp.length = ps.length - (i + 1) := by rw [htp.len, List.length_map, List.length_drop]
        have hat : ∀ m, m < sp.length → at' ((ps.drop (i + 1)).map fun q => sb q (at' ps i)) m = sb (at' ps (i + 1 + m)) (at' ps i) := fun m hm => by
          have h1 : m < (ps.drop (i + 1)).length := by rw [List.length_drop]; omega
          have h2 : ((ps.drop (i + 1)).map fun q => sb q (at' ps i))[m]? = some (sb (at' ps (i + 1 + m)) (at' ps i)) := by
            rw [List.getElem?_map, at_get h1, drop_at]; rfl
          have h3 := at_get (ps := (ps.drop (i + 1)).map fun q => sb q (at' ps i)) (i := m) (by rw [List.length_map]; exact h1)
          exact Option.some.inj (h3.symm.trans h2)
        refine ⟨_, rfl, D, sp, rfl, SqL.of hsp, for_en (b := false) (xs := sp) (fun s0 σ H3 => Same H2 H3 ∧ ∃ vb A a5 a6 a7 a8 a9, σ = [some (.ref ca), some vb, some (.int (i : Nat)), some x, some (.ref D), a5, a6, a7, a8, a9] ∧ Best H3 vb A ps ∧ (∀ i' j k, i' < i → i' < j → j < k → k < ps.length → (turn (at' ps i') (at' ps j) (at' ps k)).natAbs ≤ A) ∧
            ∀ j k, i < j → j < i + 1 + s0 → j < k → k < ps.length → (turn (at' ps i) (at' ps j) (at' ps k)).natAbs ≤ A)
          ⟨Same.refl _, vb, A0, _, _, _, _, _, rfl, hB5, hA, fun j k h1 h2 => by omega⟩ (fun m σ H3 _ h => SqL.of (h.1 _ _ hsp)) ?_ (fun σ H3 h => ?_)⟩
        · rintro m y T2 σ H3 hy ⟨s6, vb, A1, a5, a6, a7, a8, a9, rfl, hB6, hA1, hA2⟩ hT2
          have hm : m < sp.length := (List.getElem?_eq_some_iff.mp hy).1
          have s7 := s6.trans (Same.new (o := .tup [.int (m : Nat), y]) hT2)
          have hB7 := hB6.same (Same.new (o := .tup [.int (m : Nat), y]) hT2)
          refine ⟨T2, _, rfl, SqT.of upd_same, rfl, _, _, rfl, _, _, rfl, rfl, ?_⟩
          have em : ((m : Int) + 1) = ((m + 1 : Nat) : Int) := by omega
          refine ⟨_, rfl, _, rfl, _, _, rfl, rfl, _, rfl, D, sp, rfl, SqL.of (s7 _ _ hsp), fun L2 hL2 => ?_⟩
          have ec2 : cutV sp (some ((m : Int) + 1)) none = sp.drop (m + 1) := by rw [em, cutV_from]
          rw [show cutV sp (some ((m : Int) + 1)) none = sp.drop (m + 1) from ec2]
          have s8 : Same (upd H3 T2 (.tup [.int (m : Nat), y])) (upd (upd H3 T2 (.tup [.int (m : Nat), y])) L2 (.lst (sp.drop (m + 1)))) := Same.new hL2
          have s9 := s7.trans s8
          have hB9 := hB7.same s8
          have hyp := (htp.keep (Keep.of s9)).at hy
          rw [hat m hm] at hyp
          refine ⟨L2, rfl, ⟨_, SqL.of upd_same⟩, for_list (xs := sp.drop (m + 1)) (fun t σ H4 => Same (upd (upd H3 T2 (.tup [.int (m : Nat), y])) L2 (.lst (sp.drop (m + 1)))) H4 ∧ ∃ vb A a7 a8 a9, σ = [some (.ref ca), some vb, some (.int (i : Nat)), some x, some (.ref D), some (.int (m : Nat)), some y, a7, a8, a9] ∧ Best H4 vb A ps ∧ (∀ i' j k, i' < i → i' < j → j < k → k < ps.length → (turn (at' ps i') (at' ps j) (at' ps k)).natAbs ≤ A) ∧
              (∀ j k, i < j → j < i + 1 + m → j < k → k < ps.length → (turn (at' ps i) (at' ps j) (at' ps k)).natAbs ≤ A) ∧ ∀ k, i + 1 + m < k → k < i + 1 + m + 1 + t → k < ps.length → (turn (at' ps i) (at' ps (i + 1 + m)) (at' ps k)).natAbs ≤ A)
            ⟨Same.refl _, vb, A1, _, _, _, rfl, hB9, hA1, hA2, fun k h1 h2 => by omega⟩ (fun t σ H4 _ h => SqL.of (h.1 _ _ upd_same)) ?_ (fun σ H4 h => ?_)⟩
          · rintro t z σ H4 hz ⟨s10, vb, A2, a7, a8, a9, rfl, hB10, q1, q2, q3⟩
            rw [List.getElem?_drop] at hz
            have hmt : m + 1 + t < sp.length := (List.getElem?_eq_some_iff.mp hz).1
            have hzp := (htp.keep (Keep.of (s9.trans s10))).at hz
            rw [hat _ hmt] at hzp
            have hyp' := hyp.2.keep (Keep.of s10)
            have b1 := cv.bd (i + 1 + m) (by omega)
            have b0 := cv.bd i hi
            have l1 : i + 1 + m < ps.length := by omega
            have l2 : i + 1 + (m + 1 + t) < ps.length := by omega
            refine ⟨_, rfl, _, rfl, y, z, _, _, rfl, hyp', hzp.2, ?_, _, rfl, ?_⟩
            · unfold Bd sb at *; simp only; omega
            · rw [abs_val]
              have eT : cr (sb (at' ps (i + 1 + m)) (at' ps i)) (sb (at' ps (i + 1 + (m + 1 + t))) (at' ps i)) = turn (at' ps i) (at' ps (i + 1 + m)) (at' ps (i + 1 + m + 1 + t)) := by
                rw [turn_cr2, show i + 1 + (m + 1 + t) = i + 1 + m + 1 + t by omega]
              obtain ⟨TB, va, vc, rfl, hTB, hab⟩ := hB10
              refine ⟨_, rfl, _, rfl, TB, _, 0, _, rfl, rfl, SqT.of hTB, atI_nat (j := 0) rfl, _, _, rfl, rfl, _, rfl, ?_⟩
              refine ite2 (fun w => ?_) (fun w => ?_)
              · have w' := of_decide_eq_true w
                refine ⟨_, rfl, _, rfl, _, rfl, by show 3 ≤ sizeLine; decide, fun TN hTN => ?_⟩
                have s11 : Same H4 _ := Same.new (o := .tup [.int ((cr (sb (at' ps (i + 1 + m)) (at' ps i)) (sb (at' ps (i + 1 + (m + 1 + t))) (at' ps i))).natAbs : Nat), y, z]) hTN
                refine ⟨s10.trans s11, _, (cr (sb (at' ps (i + 1 + m)) (at' ps i)) (sb (at' ps (i + 1 + (m + 1 + t))) (at' ps i))).natAbs, _, _, _, rfl, ⟨TN, y, z, rfl, upd_same, fun _ => ⟨_, _, at' ps i, at' ps (i + 1 + m), at' ps (i + 1 + (m + 1 + t)), hyp'.keep (Keep.of s11), hzp.2.keep (Keep.of s11), at_mem hi, at_mem l1, at_mem l2, rfl, rfl, rfl⟩⟩, ?_, ?_, ?_⟩
                · intro i' j k h1 h2 h3 h4
                  have := q1 i' j k h1 h2 h3 h4; omega
                · intro j k h1 h2 h3 h4
                  have := q2 j k h1 h2 h3 h4; omega
                · intro k h1 h2 h3
                  by_cases hk : k = i + 1 + m + 1 + t
                  · subst hk
                    rw [eT]
                    exact Nat.le_refl _
                  · have := q3 k h1 (by omega) h3; omega
              · have w' : ¬ (_ > _) := fun z => w (decide_eq_true z)
                refine ⟨s10, _, A2, _, _, _, rfl, ⟨TB, va, vc, rfl, hTB, hab⟩, q1, q2, fun k h1 h2 h3 => ?_⟩
                by_cases hk : k = i + 1 + m + 1 + t
                · subst hk
                  rw [← eT]
                  omega
                · exact q3 k h1 (by omega) h3
          · obtain ⟨s10, vb, A2, a7, a8, a9, rfl, hB10, q1, q2, q3⟩ := h
            refine ⟨s9.trans s10, vb, A2, _, _, _, _, _, rfl, hB10, q1, fun j k h1 h2 h3 h4 => ?_⟩
            by_cases hj : j = i + 1 + m
            · subst hj
              exact q3 k h3 (by rw [List.length_drop]; omega) h4
            · exact q2 j k h1 (by omega) h3 h4
        · obtain ⟨s6, vb, A1, a5, a6, a7, a8, a9, rfl, hB6, q1, q2⟩ := h
          refine ⟨s5.trans s6, vb, A1, _, _, _, _, _, _, _, _, rfl, hB6, fun i' j k h1 h2 h3 h4 => ?_⟩
          by_cases hj : i' = i
          · subst hj
            exact q2 j k h2 (by omega) h3 h4
          · exact q1 i' j k (by omega) h2 h3 h4
    · obtain ⟨s1, vb, A0, a2, a3, a4, a5, a6, a7, a8, a9, rfl, hB, hA⟩ := h
      have hl := cv.left 0 2 (by omega) (by omega) (by decide) (by rw [Nat.mod_eq_of_lt (by omega)]; decide)
      rw [Nat.mod_eq_of_lt (show 0 + 1 < ps.length by omega)] at hl
      have hA' : ∀ i j k, i < j → j < k → k < ps.length → (turn (at' ps i) (at' ps j) (at' ps k)).natAbs ≤ A0 := fun i j k h1 h2 h3 => hA i j k (by omega) h1 h2 h3
      have hl' : 0 < turn (at' ps 0) (at' ps 1) (at' ps 2) := hl
      have h012 := hA' 0 1 2 (by decide) (by decide) (by omega)
      obtain ⟨TB, va, vc, rfl, hTB, hab⟩ := hB
      obtain ⟨a, b, p, q, r, t1, t2, m1, m2, m3, ea, eb, eA⟩ := hab (by omega)
      have hdet : cr a b ≠ 0 := fun z => by rw [z] at eA; simp only [Int.natAbs_zero] at eA; omega
      have htri := tri_all hA'
      rw [eA] at htri
      refine ⟨_, rfl, _, rfl, TB, _, rfl, SqT.of hTB, ?_, fun R hR => ?_⟩
      · intro z
        exact absurd (show HT.sIx 3 0 (some 1) = 0 from z.1) (by decide)
      · have sR := Same.new (o := .tup [va, vc]) hR
        exact k R va vc a b _ (s1.trans sR) upd_same (t1.keep (Keep.of sR)) (t2.keep (Keep.of sR)) ⟨⟨p, q, r, m1, m2, m3, ea, eb⟩, hdet, htri⟩
end
end Lat

/-! D12: Basis. -/
namespace Lat
open PySem PySem.Spec PyProof.Rows L2 Geo Gx
abbrev sBaInit : Stmt := inClass (top 39) 0
abbrev sBaProd : Stmt := inClass (top 39) 1
abbrev sBaRed : Stmt := inClass (top 39) 2
/-! ### o.f as a target -/
def gAttr (K : PySem.W.Frag) (to : TE) (f : Str) : TG := fun v σ H Q => to σ H fun o H1 => ∃ a C dx fs, o = .ref a ∧ H1 a = some (.ins C dx fs) ∧ Cls K C ∧ NoAttr K C f ∧ fs.length < 1000 ∧ Q σ (upd H1 a (.ins C dx (putF f v fs)))
theorem pg_attr {X : Cx} {o : Expr} {f : Str} {pos : Pos} {to : TE} (ho : PE X o to) : PG X (.Attribute o f pos) (gAttr X.K to f) := by
  refine ⟨fun pins s σ H v u Q I r h => ?_⟩
  rw [assign_Attribute]
  refine wpAny_bind (wpAny_holding (thn (ho.run pins s σ H _ I h) fun ov s1 ⟨x, H1, I1, r1, a, C, dx, fs, ex, ea, c, n, l, q⟩ => ?_))
  subst ex
  obtain rfl : ov = Value.ref a := r1
  exact wpAny_bind (wpAny_standAt (wpAny_bind (wpAny_holding (setattr_ok I1 ea c n l r fun s2 I2 => wpAny_release ⟨σ, _, I2, q⟩))))
theorem putF_len {f : Str} {v x : V} : ∀ {fs : List (Str × V)}, fs.lookup f = some x → (putF f v fs).length = fs.length
  | [], h => nomatch h
  | (g, y) :: r, h => by
    show (if g = f then (g, v) :: r else (g, y) :: putF f v r).length = _
    by_cases e : g = f
    · rw [if_pos e]; rfl
    · rw [if_neg e]
      have hb : (f == g) = false := beq_eq_false_iff_ne.mpr (Ne.symm e)
      rw [List.lookup_cons, hb] at h
      show (putF f v r).length + 1 = _
      rw [putF_len h]
      rfl
/-- what is known of the class Basis -/
structure BaT (K : PySem.W.Frag) (mg : Str → Option Value) (C : Addr) : Prop where
  cl : Cls K C
  na : NoAttr K C "a"
  nb : NoAttr K C "b"
  nu : NoAttr K C "u"
  nv : NoAttr K C "v"
  mgC : mg "Basis" = some (.ref C)
theorem ab_ : ¬ (("a" : Str) = "b") := by decide +kernel
theorem au_ : ¬ (("a" : Str) = "u") := by decide +kernel
theorem av_ : ¬ (("a" : Str) = "v") := by decide +kernel
theorem bu_ : ¬ (("b" : Str) = "u") := by decide +kernel
theorem bv_ : ¬ (("b" : Str) = "v") := by decide +kernel
theorem uv_ : ¬ (("u" : Str) = "v") := by decide +kernel
/-- the fields of a Basis -/
structure Flds (fs : List (Str × V)) (va vb vu vv : V) : Prop where
  a : fs.lookup ("a" : Str) = some va
  b : fs.lookup ("b" : Str) = some vb
  u : fs.lookup ("u" : Str) = some vu
  v : fs.lookup ("v" : Str) = some vv
  few : fs.length = 4
  none : ∀ m : Str, m ≠ "a" → m ≠ "b" → m ≠ "u" → m ≠ "v" → fs.lookup m = Option.none
theorem Flds.putU {fs : List (Str × V)} {va vb vu vv x : V} (h : Flds fs va vb vu vv) : Flds (putF "u" x fs) va vb x vv :=
  ⟨by rw [lookup_putF, if_neg au_, h.a], by rw [lookup_putF, if_neg bu_, h.b], by rw [lookup_putF, if_pos rfl], by rw [lookup_putF, if_neg (Ne.symm uv_), h.v], by rw [putF_len h.u, h.few],
    fun m h1 h2 h3 h4 => by rw [lookup_putF, if_neg h3, h.none m h1 h2 h3 h4]⟩
theorem Flds.putV {fs : List (Str × V)} {va vb vu vv x : V} (h : Flds fs va vb vu vv) : Flds (putF "v" x fs) va vb vu x :=
  ⟨by rw [lookup_putF, if_neg av_, h.a], by rw [lookup_putF, if_neg bv_, h.b], by rw [lookup_putF, if_neg uv_, h.u], by rw [lookup_putF, if_pos rfl], by rw [putF_len h.v, h.few],
    fun m h1 h2 h3 h4 => by rw [lookup_putF, if_neg h4, h.none m h1 h2 h3 h4]⟩
/-- a basis at p -/
def BaAt (C : Addr) (H : Hp) (p : Addr) (a b u v : Pt) : Prop := ∃ dx fs va vb vu vv, H p = some (.ins C dx fs) ∧ Flds fs va vb vu vv ∧ TP H va a ∧ TP H vb b ∧ TP H vu u ∧ TP H vv v
theorem BaAt.same {C : Addr} {H H' : Hp} {p : Addr} {a b u v : Pt} (h : BaAt C H p a b u v) (s : Same H H') : BaAt C H' p a b u v :=
  let ⟨dx, fs, va, vb, vu, vv, h0, h1, h2, h3, h4, h5⟩ := h
  ⟨dx, fs, va, vb, vu, vv, s _ _ h0, h1, h2.keep (Keep.of s), h3.keep (Keep.of s), h4.keep (Keep.of s), h5.keep (Keep.of s)⟩
/-- all but p stays -/
def But (p : Addr) (H H' : Hp) : Prop := ∀ b o, b ≠ p → H b = some o → H' b = some o
theorem But.refl {p : Addr} {H : Hp} : But p H H := fun _ _ _ h => h
theorem But.of {p : Addr} {H H' : Hp} (s : Same H H') : But p H H' := fun b o _ h => s b o h
theorem But.trans {p : Addr} {H H1 H2 : Hp} (s : But p H H1) (t : But p H1 H2) : But p H H2 := fun b o n h => t b o n (s b o n h)
theorem But.put {p : Addr} {H : Hp} {o : HO} : But p H (upd H p o) := fun b x n h => by rw [upd_ne n]; exact h
/-- sizes of the directions -/
structure Sz (a b x : Pt) : Prop where
  bd : Bd 1000000000 x
  da : -1000000000 ≤ dt x a ∧ dt x a ≤ 1000000000
  db : -1000000000 ≤ dt x b ∧ dt x b ≤ 1000000000
theorem abs_mul_le {x y B : Int} (hy : y ≠ 0) (h1 : -B ≤ x * y) (h2 : x * y ≤ B) : -B ≤ x ∧ x ≤ B := by
  have hB : 0 ≤ B := by omega
  rcases Int.lt_or_le 0 y with z | z
  · rcases Int.lt_or_le 0 x with w | w
    · have : x * 1 ≤ x * y := Int.mul_le_mul_of_nonneg_left (by omega) (by omega)
      omega
    · have : (-x) * 1 ≤ (-x) * y := Int.mul_le_mul_of_nonneg_left (by omega) (by omega)
      have e : (-x) * y = -(x * y) := by grind
      omega
  · rcases Int.lt_or_le 0 x with w | w
    · have : x * 1 ≤ x * (-y) := Int.mul_le_mul_of_nonneg_left (by omega) (by omega)
      have e : x * (-y) = -(x * y) := by grind
      omega
    · have : (-x) * 1 ≤ (-x) * (-y) := Int.mul_le_mul_of_nonneg_left (by omega) (by omega)
      have e : (-x) * (-y) = x * y := by grind
      omega
theorem sz_of {a b x : Pt} (ha : Bd 200 a) (hb : Bd 200 b) (hD : cr a b ≠ 0) (hq : qf a b x x ≤ 160000) : Sz a b x := by
  obtain ⟨d1, d2, d3, d4⟩ := dt_le (a := a) (b := b) x
  obtain ⟨a1, a2, a3, a4⟩ := ha
  obtain ⟨b1, b2, b3, b4⟩ := hb
  have e1 : x.1 * cr a b = dt x a * b.2 - dt x b * a.2 := by unfold cr dt; grind
  have e2 : x.2 * cr a b = dt x b * a.1 - dt x a * b.1 := by unfold cr dt; grind
  have m1 := mul_bd (A := 160000) (B := 200) (x := dt x a) (y := b.2) (by omega) (by omega) (by omega) (by omega)
  have m2 := mul_bd (A := 160000) (B := 200) (x := dt x b) (y := a.2) (by omega) (by omega) (by omega) (by omega)
  have m3 := mul_bd (A := 160000) (B := 200) (x := dt x b) (y := a.1) (by omega) (by omega) (by omega) (by omega)
  have m4 := mul_bd (A := 160000) (B := 200) (x := dt x a) (y := b.1) (by omega) (by omega) (by omega) (by omega)
  have c1 := abs_mul_le (B := 64000000) hD (by omega) (by omega : x.1 * cr a b ≤ 64000000)
  have c2 := abs_mul_le (B := 64000000) hD (by omega) (by omega : x.2 * cr a b ≤ 64000000)
  refine ⟨?_, by omega, by omega⟩
  unfold Bd; omega
section
variable {P : Program} {w : World} {K : PySem.W.Frag} {mg : Str → Option Value} {base : Heap} {C : Addr}
theorem scBaInit : FnScope ["self", "a", "b"] ["self", "a", "b"] (defScope sBaInit) := ⟨rfl, rfl, rfl, by decide +kernel, rfl, by decide +kernel, by decide +kernel⟩
def spBaInit (C : Addr) : Sp := fun vs H Q _ => ∃ p dx va vb a b, vs = [.ref p, va, vb] ∧ H p = some (.ins C dx []) ∧ TP H va a ∧ TP H vb b ∧ ∀ H', But p H H' → BaAt C H' p a b (1, 0) (0, 1) → Q .non H'
theorem ok_baInit {f : Addr} {fd : FuncData} (F : Fun K "__init__" "Basis.__init__" sBaInit f fd) (T : BaT K mg C) : FnOk P w K mg base CX0 1 f fd ["self", "a", "b"] (spBaInit C) := by
  refine F.ok scBaInit (fun vs H Q E h => ?_) (fun cdv A outer s H vs Q E hr h => ?_)
  · obtain ⟨_, _, _, _, _, _, rfl, _⟩ := h; rfl
  · obtain ⟨p, dx, va, vb, a, b, rfl, hp, ha, hb, k⟩ := h
    refine ⟨_, pss_cons (ps_fld (pv 0) (pv 1) rfl) (pss_cons (ps_fld (pv 0) (pv 2) rfl) (pss_cons (ps_fld (pv 0) (pe_tup (pa_cons pe_int (pa_cons pe_int pa_nil))) rfl) (pss_one (ps_fld (pv 0) (pe_tup (pa_cons pe_int (pa_cons pe_int pa_nil))) rfl)))), ?_⟩
    refine ⟨_, rfl, _, rfl, p, C, dx, [], rfl, hp, T.cl, T.na, by decide, ?_⟩
    have k1 : Keep H (upd H p (.ins C dx (putF "a" va []))) := Keep.ins hp
    refine ⟨_, rfl, _, rfl, p, C, dx, _, rfl, upd_same, T.cl, T.nb, by show 1 < 1000; decide, ?_⟩
    rw [upd_upd]
    have k2 : Keep H (upd H p (.ins C dx (putF "b" vb (putF "a" va [])))) := Keep.ins hp
    refine ⟨by show 2 ≤ sizeLine; decide, fun U hU => ?_⟩
    have s3 := Same.new (o := .tup [.int 1, .int 0]) hU
    have nU : p ≠ U := ne_of_none upd_same hU
    refine ⟨_, rfl, p, C, dx, _, rfl, by rw [upd_ne nU, upd_same], T.cl, T.nu, by show (if ("a" : Str) = "b" then _ else _ : List (Str × V)).length < 1000; rw [if_neg ab_]; show 2 < 1000; decide, ?_⟩
    have hpU : (upd (upd H p (.ins C dx (putF "b" vb (putF "a" va [])))) U (.tup [.int 1, .int 0])) p = some (.ins C dx (putF "b" vb (putF "a" va []))) := by rw [upd_ne nU, upd_same]
    have k4 := (k2.trans (Keep.of s3)).trans (Keep.ins (o := .ins C dx (putF "u" (.ref U) (putF "b" vb (putF "a" va [])))) hpU)
    have hU4 : (upd (upd (upd H p (.ins C dx (putF "b" vb (putF "a" va [])))) U (.tup [.int 1, .int 0])) p (.ins C dx (putF "u" (.ref U) (putF "b" vb (putF "a" va []))))) U = some (.tup [.int 1, .int 0]) := by rw [upd_ne (Ne.symm nU), upd_same]
    refine ⟨by show 2 ≤ sizeLine; decide, fun W hW => ?_⟩
    have nW : p ≠ W := ne_of_none upd_same hW
    have s5 := Same.new (o := .tup [.int 0, .int 1]) hW
    have e3 : putF "u" (.ref U) (putF "b" vb (putF "a" va [])) = ([("a", va), ("b", vb), ("u", .ref U)] : List (Str × V)) := by
      show putF "u" (.ref U) (if ("a" : Str) = "b" then _ else (("a" : Str), va) :: putF "b" vb []) = _
      rw [if_neg ab_]
      show (if ("a" : Str) = "u" then _ else (("a" : Str), va) :: (if ("b" : Str) = "u" then _ else (("b" : Str), vb) :: putF "u" (.ref U) [])) = _
      rw [if_neg au_, if_neg bu_]
      rfl
    refine ⟨_, rfl, p, C, dx, _, rfl, by rw [upd_ne nW, upd_same], T.cl, T.nv, by rw [e3]; show 3 < 1000; decide, ?_⟩
    have hpW : (upd (upd (upd (upd H p (.ins C dx (putF "b" vb (putF "a" va [])))) U (.tup [.int 1, .int 0])) p (.ins C dx (putF "u" (.ref U) (putF "b" vb (putF "a" va []))))) W (.tup [.int 0, .int 1])) p = some (.ins C dx (putF "u" (.ref U) (putF "b" vb (putF "a" va [])))) := by rw [upd_ne nW, upd_same]
    have k6 := (k4.trans (Keep.of s5)).trans (Keep.ins (o := .ins C dx (putF "v" (.ref W) (putF "u" (.ref U) (putF "b" vb (putF "a" va []))))) hpW)
    have e4 : putF "v" (.ref W) (putF "u" (.ref U) (putF "b" vb (putF "a" va []))) = ([("a", va), ("b", vb), ("u", .ref U), ("v", .ref W)] : List (Str × V)) := by
      rw [e3]
      show (if ("a" : Str) = "v" then _ else (("a" : Str), va) :: (if ("b" : Str) = "v" then _ else (("b" : Str), vb) :: (if ("u" : Str) = "v" then _ else (("u" : Str), V.ref U) :: putF "v" (.ref W) []))) = _
      rw [if_neg av_, if_neg bv_, if_neg uv_]
      rfl
    refine k _ (fun b o n e => ?_) ⟨dx, _, va, vb, .ref U, .ref W, upd_same, ⟨?_, ?_, ?_, ?_, by rw [e4]; rfl, fun m h1 h2 h3 h4 => ?_⟩, ha.keep k6, hb.keep k6, ⟨U, rfl, ?_⟩, ⟨W, rfl, ?_⟩⟩
    · rw [upd_ne n]
      refine s5 _ _ ?_
      rw [upd_ne n]
      refine s3 _ _ ?_
      rw [upd_ne n]
      exact e
    · rw [lookup_putF, if_neg av_, lookup_putF, if_neg au_, lookup_putF, if_neg ab_, lookup_putF, if_pos rfl]
    · rw [lookup_putF, if_neg bv_, lookup_putF, if_neg bu_, lookup_putF, if_pos rfl]
    · rw [lookup_putF, if_neg uv_, lookup_putF, if_pos rfl]
    · rw [lookup_putF, if_pos rfl]
    · rw [lookup_putF, if_neg h4, lookup_putF, if_neg h3, lookup_putF, if_neg h2, lookup_putF, if_neg h1]; rfl
    · rw [upd_ne (Ne.symm nU)]
      exact s5 _ _ hU4
    · rw [upd_ne (Ne.symm nW), upd_same]
theorem scBaProd : FnScope ["self", "first", "second", "along"] ["self", "first", "second"] (defScope sBaProd) := ⟨rfl, rfl, rfl, by decide +kernel, rfl, by decide +kernel, by decide +kernel⟩
def spBaProd (C : Addr) : Sp := fun vs H Q _ => ∃ p vx vy a b u v x y, vs = [.ref p, vx, vy] ∧ BaAt C H p a b u v ∧ TP H vx x ∧ TP H vy y ∧ Sz a b x ∧ Sz a b y ∧ Q (.int (qf a b x y)) H
theorem ok_baProd {f : Addr} {fd : FuncData} (F : Fun K "product" "Basis.product" sBaProd f fd) (T : BaT K mg C) (C1 : Cal P w K mg base 1 "dot_of" ["first", "second"] spDot) : FnOk P w K mg base CX0 2 f fd ["self", "first", "second"] (spBaProd C) := by
  refine F.ok scBaProd (fun vs H Q E h => ?_) (fun cdv A outer s H vs Q E hr h => ?_)
  · obtain ⟨_, _, _, _, _, _, _, _, _, rfl, _⟩ := h; rfl
  · obtain ⟨p, vx, vy, a, b, u, v, x, y, rfl, ⟨dx, fs, va, vb, vu, vv, h0, hf, ha, hb, hu, hv⟩, hx, hy, zx, zy, k⟩ := h
    refine ⟨_, pss_cons (ps_set (i := 3) scBaProd.nd rfl (Or.inl rfl) (pe_op op_mul (pe_cal C1 hr rfl (pa_cons (pv 1) (pa_cons (pe_fld (pv 0) rfl) pa_nil))) (pe_cal C1 hr rfl (pa_cons (pv 2) (pa_cons (pe_fld (pv 0) rfl) pa_nil)))))
      (pss_one (ps_ret (pe_op op_add (pv 3) (pe_op op_mul (pe_cal C1 hr rfl (pa_cons (pv 1) (pa_cons (pe_fld (pv 0) rfl) pa_nil))) (pe_cal C1 hr rfl (pa_cons (pv 2) (pa_cons (pe_fld (pv 0) rfl) pa_nil))))))), ?_⟩
    refine ⟨_, rfl, _, rfl, p, C, dx, fs, va, rfl, h0, T.cl, T.na, hf.a, vx, va, x, a, rfl, hx, ha, zx.bd, ?_⟩
    refine ⟨_, rfl, _, rfl, p, C, dx, fs, va, rfl, h0, T.cl, T.na, hf.a, vy, va, y, a, rfl, hy, ha, zy.bd, _, _, rfl, rfl, .inl (far zx.da.1 zx.da.2), ?_⟩
    refine ⟨_, rfl, _, rfl, _, rfl, p, C, dx, fs, vb, rfl, h0, T.cl, T.nb, hf.b, vx, vb, x, b, rfl, hx, hb, zx.bd, ?_⟩
    refine ⟨_, rfl, _, rfl, p, C, dx, fs, vb, rfl, h0, T.cl, T.nb, hf.b, vy, vb, y, b, rfl, hy, hb, zy.bd, _, _, rfl, rfl, .inl (far zx.db.1 zx.db.2), _, _, rfl, rfl, k⟩
end
end Lat

/-! D13: Basis.reduce. -/
namespace Lat
open PySem PySem.Spec PyProof.Rows L2 Geo Gx
section
variable {P : Program} {w : World} {K : PySem.W.Frag} {mg : Str → Option Value} {base : Heap} {C : Addr}
/-- the method product -/
structure PrT (P : Program) (w : World) (K : PySem.W.Frag) (mg : Str → Option Value) (base : Heap) (C : Addr) : Prop where
  ex : ∃ g fd, FnOk P w K mg base CX0 2 g fd ["self", "first", "second"] (spBaProd C) ∧ Meth K C "product" g ∧ Binds K fd ["self", "first", "second"] []
theorem q0_le {a b : Pt} (ha : Bd 200 a) (hb : Bd 200 b) : qf a b (1, 0) (1, 0) + qf a b (0, 1) (0, 1) ≤ 160000 := by
  obtain ⟨a1, a2, a3, a4⟩ := ha
  obtain ⟨b1, b2, b3, b4⟩ := hb
  have m1 := mul_bd (A := 200) (B := 200) a1 a2 a1 a2
  have m2 := mul_bd (A := 200) (B := 200) a3 a4 a3 a4
  have m3 := mul_bd (A := 200) (B := 200) b1 b2 b1 b2
  have m4 := mul_bd (A := 200) (B := 200) b3 b4 b3 b4
  have e : qf a b (1, 0) (1, 0) + qf a b (0, 1) (0, 1) = a.1 * a.1 + b.1 * b.1 + (a.2 * a.2 + b.2 * b.2) := by unfold qf dt; grind
  rw [e]; omega
theorem scBaRed : FnScope ["self", "square", "factor"] ["self"] (defScope sBaRed) := ⟨rfl, rfl, rfl, by decide +kernel, rfl, by decide +kernel, by decide +kernel⟩
def spBaRed (C : Addr) : Sp := fun vs H Q _ => ∃ p a b, vs = [.ref p] ∧ BaAt C H p a b (1, 0) (0, 1) ∧ Bd 200 a ∧ Bd 200 b ∧ cr a b ≠ 0 ∧ ∀ H' u v, But p H H' → BaAt C H' p a b u v → (cr u v = 1 ∨ cr u v = -1) → qf a b u u ≤ qf a b v v → -(qf a b u u) ≤ 2 * qf a b u v → 2 * qf a b u v ≤ qf a b u u → Sz a b u → Sz a b v → Q .non H'
theorem ok_baRed {f : Addr} {fd : FuncData} (F : Fun K "reduce" "Basis.reduce" sBaRed f fd) (T : BaT K mg C) (G : PrT P w K mg base C) : FnOk P w K mg base CX0 3 f fd ["self"] (spBaRed C) := by
  obtain ⟨g, fdg, GP, GM, GB⟩ := G.ex
  refine F.ok scBaRed (fun vs H Q E h => ?_) (fun cdv A outer s H vs Q E hr h => ?_)
  · obtain ⟨_, _, _, rfl, _⟩ := h; rfl
  · obtain ⟨p, a, b, rfl, hB0, ba, bb, hD, k⟩ := h
    have hQ := q0_le ba bb
    have hz : ∀ x, qf a b x x ≤ 160000 → Sz a b x := fun x hx => sz_of ba bb hD hx
    refine ⟨_, pss_one (ps_while PassesOwn.never (pt_val pe_bl)
      (pss_cons (ps_if (pt_cmpR op_gt (pe_meth (pv 0) T.cl GM GP hr GB .nil pass0 (pa_cons (pe_fld (pv 0) rfl) (pa_cons (pe_fld (pv 0) rfl) pa_nil))) (pe_meth (pv 0) T.cl GM GP hr GB .nil pass0 (pa_cons (pe_fld (pv 0) rfl) (pa_cons (pe_fld (pv 0) rfl) pa_nil))) (nomark _))
          (pss_one (ps_asg (pe_tup (pa_cons (pe_fld (pv 0) rfl) (pa_cons (pe_fld (pv 0) rfl) pa_nil))) (pg_tup rfl (pgs_cons (pg_attr (pv 0)) (pgs_cons (pg_attr (pv 0)) pgs_nil))))) pss_nil)
      (pss_cons (ps_set (i := 1) scBaRed.nd rfl (Or.inl rfl) (pe_meth (pv 0) T.cl GM GP hr GB .nil pass0 (pa_cons (pe_fld (pv 0) rfl) (pa_cons (pe_fld (pv 0) rfl) pa_nil))))
      (pss_cons (ps_set (i := 2) scBaRed.nd rfl (Or.inl rfl) (pe_op op_fdivN (pe_op op_add (pe_op op_mul pe_int (pe_meth (pv 0) T.cl GM GP hr GB .nil pass0 (pa_cons (pe_fld (pv 0) rfl) (pa_cons (pe_fld (pv 0) rfl) pa_nil)))) (pv 1)) (pe_op op_mul pe_int (pv 1))))
      (pss_cons (ps_if (pt_cmpR op_eq (pv 2) pe_int (nomark _)) (pss_one ps_retN) pss_nil)
      (pss_one (ps_fld (pv 0) (pe_tup (pa_cons (pe_op op_sub (pe_ix ix_tup (pe_fld (pv 0) rfl) pe_int (fun _ _ => rfl)) (pe_op op_mul (pv 2) (pe_ix ix_tup (pe_fld (pv 0) rfl) pe_int (fun _ _ => rfl))))
        (pa_cons (pe_op op_sub (pe_ix ix_tup (pe_fld (pv 0) rfl) pe_int (fun _ _ => rfl)) (pe_op op_mul (pv 2) (pe_ix ix_tup (pe_fld (pv 0) rfl) pe_int (fun _ _ => rfl)))) pa_nil))) rfl))))))), ?_⟩
    refine ⟨fun m σ H' => ∃ a2 a3 u v, σ = [some (.ref p), a2, a3] ∧ But p H H' ∧ BaAt C H' p a b u v ∧ Red a b (qf a b (1, 0) (1, 0) + qf a b (0, 1) (0, 1)) u v ∧ mu a b u v = m,
      ⟨_, _, _, _, _, rfl, But.refl, hB0, ⟨.inl (by decide), Int.le_refl _⟩, rfl⟩, ?_⟩
    rintro m σ H0 ⟨a2, a3, u0, v0, rfl, bt0, hBa, hRa, hmu0⟩
    refine ⟨true, rfl, iteT ⟨fun σ' H'' => ∃ a2 a3 u v, σ' = [some (.ref p), a2, a3] ∧ But p H H'' ∧ BaAt C H'' p a b u v ∧ Red a b (qf a b (1, 0) (1, 0) + qf a b (0, 1) (0, 1)) u v ∧ mu a b u v < m,
      fun σ' H'' ⟨a2, a3, u, v, e1, e2, e3, e4, e5⟩ => ⟨mu a b u v, e5, a2, a3, u, v, e1, e2, e3, e4, rfl⟩, ?_⟩⟩
    obtain ⟨dx, fs, va, vb, vu, vv, h0, hf, ha, hb, hu, hv⟩ := id hBa
    have zu := hz u0 (by have := hRa.sum; have := qf_nonneg a b v0; omega)
    have zv := hz v0 (by have := hRa.sum; have := qf_nonneg a b u0; omega)
    have np : fs.lookup ("product" : Str) = none := hf.none _ (by decide +kernel) (by decide +kernel) (by decide +kernel) (by decide +kernel)
    refine ⟨_, rfl, p, dx, fs, rfl, h0, np, _, rfl, p, C, dx, fs, vu, rfl, h0, T.cl, T.nu, hf.u, _, rfl, p, C, dx, fs, vu, rfl, h0, T.cl, T.nu, hf.u, p, vu, vu, a, b, u0, v0, u0, u0, rfl, hBa, hu, hu, zu, zu, ?_⟩
    refine ⟨_, rfl, p, dx, fs, rfl, h0, np, _, rfl, p, C, dx, fs, vv, rfl, h0, T.cl, T.nv, hf.v, _, rfl, p, C, dx, fs, vv, rfl, h0, T.cl, T.nv, hf.v, p, vv, vv, a, b, u0, v0, v0, v0, rfl, hBa, hv, hv, zv, zv, ?_⟩
    refine ⟨_, _, rfl, rfl, _, rfl, ?_⟩
    refine ite2 (fun wsw => ?_) (fun wsw => ?_)
    · have hlt : qf a b v0 v0 < qf a b u0 u0 := of_decide_eq_true wsw
      refine ⟨_, rfl, p, C, dx, fs, vv, rfl, h0, T.cl, T.nv, hf.v, _, rfl, p, C, dx, fs, vu, rfl, h0, T.cl, T.nu, hf.u, by show 2 ≤ sizeLine; decide, fun M hM => ?_⟩
      have sM := Same.new (o := .tup [vv, vu]) hM
      have nM : p ≠ M := ne_of_none h0 hM
      refine ⟨M, _, rfl, SqT.of upd_same, rfl, _, _, rfl, ?_⟩
      refine ⟨_, rfl, p, C, dx, fs, rfl, sM _ _ h0, T.cl, T.nu, by rw [hf.few]; decide, ?_⟩
      refine ⟨_, _, rfl, _, rfl, p, C, dx, _, rfl, upd_same, T.cl, T.nv, by rw [hf.putU.few]; decide, rfl, ?_⟩
      rw [upd_upd]
      have kM := (Keep.of sM).trans (Keep.ins (o := .ins C dx (putF "v" vu (putF "u" vv fs))) (sM _ _ h0))
      have hB : BaAt C (upd (upd H0 M (.tup [vv, vu])) p (.ins C dx (putF "v" vu (putF "u" vv fs)))) p a b v0 u0 := ⟨dx, _, va, vb, vv, vu, upd_same, hf.putU.putV, ha.keep kM, hb.keep kM, hv.keep kM, hu.keep kM⟩
      have bt : But p H (upd (upd H0 M (.tup [vv, vu])) p (.ins C dx (putF "v" vu (putF "u" vv fs)))) := (bt0.trans (But.of sM)).trans But.put
      have hR := hRa.swap
      have hmu : mu a b v0 u0 = m := by rw [mu_swap]; exact hmu0
      have hST : qf a b v0 v0 ≤ qf a b u0 u0 := Int.le_of_lt hlt
      clear hu hv ha hb zu zv np hf h0 hBa bt0 hRa hmu0 wsw hlt sM nM kM hM
      obtain ⟨dx, fs, va, vb, vu, vv, h0, hf, ha, hb, hu, hv⟩ := id hB
      have hS := (hR.pos hD).1
      have zu := hz v0 (by have := hR.sum; have := qf_nonneg a b u0; omega)
      have zv := hz u0 (by have := hR.sum; have := qf_nonneg a b v0; omega)
      have np : fs.lookup ("product" : Str) = none := hf.none _ (by decide +kernel) (by decide +kernel) (by decide +kernel) (by decide +kernel)
      refine ⟨_, rfl, p, dx, fs, rfl, h0, np, _, rfl, p, C, dx, fs, vu, rfl, h0, T.cl, T.nu, hf.u, _, rfl, p, C, dx, fs, vu, rfl, h0, T.cl, T.nu, hf.u, p, vu, vu, a, b, v0, u0, v0, v0, rfl, hB, hu, hu, zu, zu, ?_⟩
      refine ⟨_, rfl, p, dx, fs, rfl, h0, np, _, rfl, p, C, dx, fs, vu, rfl, h0, T.cl, T.nu, hf.u, _, rfl, p, C, dx, fs, vv, rfl, h0, T.cl, T.nv, hf.v, p, vu, vv, a, b, v0, u0, v0, u0, rfl, hB, hu, hv, zu, zv, ?_⟩
      have hS1 : qf a b v0 v0 ≤ 160000 := by have := hR.sum; have := qf_nonneg a b u0; omega
      refine ⟨_, _, rfl, rfl, .inl (by decide), _, rfl, _, _, rfl, rfl, _, rfl, _, _, rfl, rfl, .inl (by decide), _, _, rfl, rfl, ⟨by omega, by omega⟩, ?_⟩
      refine ⟨_, rfl, rfl, _, rfl, ?_⟩
      refine ite2 (fun w => ?_) (fun w => ?_)
      · have e0 : fac a b v0 u0 = 0 := V.int.inj (of_decide_eq_true w)
        obtain ⟨f1, f2⟩ := fac_spec (a := a) (b := b) (u := v0) (v := u0) hS
        rw [e0] at f1 f2
        exact k _ v0 u0 bt hB hR.det hST (by omega) (by omega) zu zv
      · have e0 : fac a b v0 u0 ≠ 0 := fun z => w (decide_eq_true (congrArg V.int z))
        obtain ⟨r1, r2⟩ := hR.next hD e0
        obtain ⟨tu, rfl, htu⟩ := id hu
        obtain ⟨tv, rfl, htv⟩ := id hv
        refine ⟨_, rfl, p, C, dx, fs, _, rfl, h0, T.cl, T.nv, hf.v, tv, _, 0, _, rfl, rfl, SqT.of htv, atI_nat (j := 0) rfl, _, rfl, _, rfl, p, C, dx, fs, _, rfl, h0, T.cl, T.nu, hf.u, tu, _, 0, _, rfl, rfl, SqT.of htu, atI_nat (j := 0) rfl, _, _, rfl, rfl, .inr (far zu.bd.1 zu.bd.2.1), _, _, rfl, rfl, ?_⟩
        refine ⟨_, rfl, p, C, dx, fs, _, rfl, h0, T.cl, T.nv, hf.v, tv, _, 1, _, rfl, rfl, SqT.of htv, atI_nat (j := 1) rfl, _, rfl, _, rfl, p, C, dx, fs, _, rfl, h0, T.cl, T.nu, hf.u, tu, _, 1, _, rfl, rfl, SqT.of htu, atI_nat (j := 1) rfl, _, _, rfl, rfl, .inr (far zu.bd.2.2.1 zu.bd.2.2.2), _, _, rfl, rfl, ?_⟩
        refine ⟨by show 2 ≤ sizeLine; decide, fun N hN => ?_⟩
        have sN := Same.new (o := .tup [.int (step v0 u0 (fac a b v0 u0)).1, .int (step v0 u0 (fac a b v0 u0)).2]) hN
        have nN : N ≠ p := Ne.symm (ne_of_none h0 hN)
        refine ⟨_, rfl, p, C, dx, fs, rfl, sN _ _ h0, T.cl, T.nv, by rw [hf.few]; decide, ?_⟩
        have kN := (Keep.of sN).trans (Keep.ins (o := .ins C dx (putF "v" (.ref N) fs)) (sN _ _ h0))
        exact ⟨_, _, v0, step v0 u0 (fac a b v0 u0), rfl, (bt.trans (But.of sN)).trans But.put, ⟨dx, _, va, vb, _, _, upd_same, hf.putV, ha.keep kN, hb.keep kN, hu.keep kN, ⟨N, rfl, by rw [upd_ne nN, upd_same]; rfl⟩⟩, r1, by rw [← hmu]; exact r2⟩
    · have hST : qf a b u0 u0 ≤ qf a b v0 v0 := Int.not_lt.mp (fun z => wsw (decide_eq_true z))
      have hB := hBa
      have bt := bt0
      have hR := hRa
      have hmu := hmu0
      clear hu hv ha hb zu zv np hf h0 hBa bt0 hRa hmu0 wsw
      obtain ⟨dx, fs, va, vb, vu, vv, h0, hf, ha, hb, hu, hv⟩ := id hB
      have hS := (hR.pos hD).1
      have zu := hz u0 (by have := hR.sum; have := qf_nonneg a b v0; omega)
      have zv := hz v0 (by have := hR.sum; have := qf_nonneg a b u0; omega)
      have np : fs.lookup ("product" : Str) = none := hf.none _ (by decide +kernel) (by decide +kernel) (by decide +kernel) (by decide +kernel)
      refine ⟨_, rfl, p, dx, fs, rfl, h0, np, _, rfl, p, C, dx, fs, vu, rfl, h0, T.cl, T.nu, hf.u, _, rfl, p, C, dx, fs, vu, rfl, h0, T.cl, T.nu, hf.u, p, vu, vu, a, b, u0, v0, u0, u0, rfl, hB, hu, hu, zu, zu, ?_⟩
      refine ⟨_, rfl, p, dx, fs, rfl, h0, np, _, rfl, p, C, dx, fs, vu, rfl, h0, T.cl, T.nu, hf.u, _, rfl, p, C, dx, fs, vv, rfl, h0, T.cl, T.nv, hf.v, p, vu, vv, a, b, u0, v0, u0, v0, rfl, hB, hu, hv, zu, zv, ?_⟩
      have hS1 : qf a b u0 u0 ≤ 160000 := by have := hR.sum; have := qf_nonneg a b v0; omega
      refine ⟨_, _, rfl, rfl, .inl (by decide), _, rfl, _, _, rfl, rfl, _, rfl, _, _, rfl, rfl, .inl (by decide), _, _, rfl, rfl, ⟨by omega, by omega⟩, ?_⟩
      refine ⟨_, rfl, rfl, _, rfl, ?_⟩
      refine ite2 (fun w => ?_) (fun w => ?_)
      · have e0 : fac a b u0 v0 = 0 := V.int.inj (of_decide_eq_true w)
        obtain ⟨f1, f2⟩ := fac_spec (a := a) (b := b) (u := u0) (v := v0) hS
        rw [e0] at f1 f2
        exact k _ u0 v0 bt hB hR.det hST (by omega) (by omega) zu zv
      · have e0 : fac a b u0 v0 ≠ 0 := fun z => w (decide_eq_true (congrArg V.int z))
        obtain ⟨r1, r2⟩ := hR.next hD e0
        obtain ⟨tu, rfl, htu⟩ := id hu
        obtain ⟨tv, rfl, htv⟩ := id hv
        refine ⟨_, rfl, p, C, dx, fs, _, rfl, h0, T.cl, T.nv, hf.v, tv, _, 0, _, rfl, rfl, SqT.of htv, atI_nat (j := 0) rfl, _, rfl, _, rfl, p, C, dx, fs, _, rfl, h0, T.cl, T.nu, hf.u, tu, _, 0, _, rfl, rfl, SqT.of htu, atI_nat (j := 0) rfl, _, _, rfl, rfl, .inr (far zu.bd.1 zu.bd.2.1), _, _, rfl, rfl, ?_⟩
        refine ⟨_, rfl, p, C, dx, fs, _, rfl, h0, T.cl, T.nv, hf.v, tv, _, 1, _, rfl, rfl, SqT.of htv, atI_nat (j := 1) rfl, _, rfl, _, rfl, p, C, dx, fs, _, rfl, h0, T.cl, T.nu, hf.u, tu, _, 1, _, rfl, rfl, SqT.of htu, atI_nat (j := 1) rfl, _, _, rfl, rfl, .inr (far zu.bd.2.2.1 zu.bd.2.2.2), _, _, rfl, rfl, ?_⟩
        refine ⟨by show 2 ≤ sizeLine; decide, fun N hN => ?_⟩
        have sN := Same.new (o := .tup [.int (step u0 v0 (fac a b u0 v0)).1, .int (step u0 v0 (fac a b u0 v0)).2]) hN
        have nN : N ≠ p := Ne.symm (ne_of_none h0 hN)
        refine ⟨_, rfl, p, C, dx, fs, rfl, sN _ _ h0, T.cl, T.nv, by rw [hf.few]; decide, ?_⟩
        have kN := (Keep.of sN).trans (Keep.ins (o := .ins C dx (putF "v" (.ref N) fs)) (sN _ _ h0))
        exact ⟨_, _, u0, step u0 v0 (fac a b u0 v0), rfl, (bt.trans (But.of sN)).trans But.put, ⟨dx, _, va, vb, _, _, upd_same, hf.putV, ha.keep kN, hb.keep kN, hu.keep kN, ⟨N, rfl, by rw [upd_ne nN, upd_same]; rfl⟩⟩, r1, by rw [← hmu]; exact r2⟩
end
end Lat

/-! D14: certificate_for, box_of, box_directions. -/
namespace Lat
open PySem PySem.Spec PyProof.Rows L2 Geo Gx
abbrev sBox : Stmt := top 40
abbrev sBoxD : Stmt := top 41
abbrev sCert : Stmt := top 42
/-- a reduced basis -/
structure Rdc (a b u v : Pt) : Prop where
  det : cr u v = 1 ∨ cr u v = -1
  st : qf a b u u ≤ qf a b v v
  lo : -(qf a b u u) ≤ 2 * qf a b u v
  hi : 2 * qf a b u v ≤ qf a b u u
  zu : Sz a b u
  zv : Sz a b v
theorem sb_bd {p q : Pt} (hp : Bd 100 p) (hq : Bd 100 q) : Bd 200 (sb p q) := by unfold Bd sb at *; simp only; omega
theorem cv_mem {ps : List Pt} (c : Cv ps) {p : Pt} (h : p ∈ ps) : Bd 100 p := by
  obtain ⟨i, hi, rfl⟩ := mem_at h
  exact c.bd i hi
theorem Wd.bds {ps : List Pt} {a b : Pt} (h : Wd ps a b) (c : Cv ps) : Bd 200 a ∧ Bd 200 b := by
  obtain ⟨p, q, r, h1, h2, h3, rfl, rfl⟩ := h.ex
  exact ⟨sb_bd (cv_mem c h2) (cv_mem c h1), sb_bd (cv_mem c h3) (cv_mem c h1)⟩
section
variable {P : Program} {w : World} {K : PySem.W.Frag} {mg : Str → Option Value} {base : Heap} {C : Addr}
structure BaM (P : Program) (w : World) (K : PySem.W.Frag) (mg : Str → Option Value) (base : Heap) (C : Addr) : Prop where
  mkf : ∃ f fd, Mk K C f ∧ FnOk P w K mg base CX0 1 f fd ["self", "a", "b"] (spBaInit C) ∧ Binds K fd ["self", "a", "b"] []
  rd : ∃ f fd, Meth K C "reduce" f ∧ FnOk P w K mg base CX0 3 f fd ["self"] (spBaRed C) ∧ Binds K fd ["self"] []
theorem scCert : FnScope ["corners", "a", "b", "basis"] ["corners"] (defScope sCert) := ⟨rfl, rfl, rfl, by decide +kernel, rfl, by decide +kernel, by decide +kernel⟩
def spCert : Sp := fun vs H Q _ => ∃ ca xs ps, vs = [.ref ca] ∧ H ca = some (.tup xs) ∧ TPs H xs ps ∧ Cv ps ∧ ∀ D va vb vu vv a b u v H', Same H H' → H' D = some (.tup [va, vb, vu, vv]) → TP H' va a → TP H' vb b → TP H' vu u → TP H' vv v → Wd ps a b → Rdc a b u v → Q (.ref D) H'
theorem ok_cert {f : Addr} {fd : FuncData} (F : Fun K "certificate_for" "certificate_for" sCert f fd) (T : BaT K mg C) (M : BaM P w K mg base C) (C1 : Cal P w K mg base 2 "widest_pair" ["corners"] spWidest) : FnOk P w K mg base CX0 4 f fd ["corners"] spCert := by
  obtain ⟨fi, fdi, mk, GI, bI⟩ := M.mkf
  obtain ⟨fr, fdr, mr, GR, bR⟩ := M.rd
  refine F.ok scCert (fun vs H Q E h => ?_) (fun cdv A outer s H vs Q E hr h => ?_)
  · obtain ⟨_, _, _, rfl, _⟩ := h; rfl
  · obtain ⟨ca, xs, ps, rfl, hc, hp, cv, k⟩ := h
    have hr2 := hr.mono (show 2 ≤ 3 by decide)
    refine ⟨_, pss_cons (ps_asg (pe_cal C1 hr2 rfl (pa_cons (pv 0) pa_nil)) (pg_tup rfl (pgs_cons (pg_name (i := 1) scCert.nd rfl (Or.inl rfl)) (pgs_cons (pg_name (i := 2) scCert.nd rfl (Or.inl rfl)) pgs_nil))))
      (pss_cons (ps_set (i := 3) scCert.nd rfl (Or.inl rfl) (pe_make mk GI hr2 rfl T.mgC bI .nil pass0 (pa_cons (pv 1) (pa_cons (pv 2) pa_nil))))
      (pss_cons (ps_expr (pe_meth0 (pv 3) T.cl mr GR hr bR .nil pass0))
      (pss_one (ps_ret (pe_tup (pa_cons (pv 1) (pa_cons (pv 2) (pa_cons (pe_fld (pv 3) rfl) (pa_cons (pe_fld (pv 3) rfl) pa_nil))))))))), ?_⟩
    refine ⟨_, rfl, ca, xs, ps, rfl, hc, hp, cv, fun D va vb a b H1 s1 hD ha hb hW => ?_⟩
    obtain ⟨ba, bb⟩ := hW.bds cv
    refine ⟨D, _, rfl, SqT.of hD, rfl, _, _, rfl, _, _, rfl, rfl, ?_⟩
    refine ⟨_, rfl, _, rfl, fun x dx nx ndx nex => ?_⟩
    have s2 : Same H1 (upd (upd H1 dx (.own x)) x (.ins C dx [])) := fun b o e => by
      rw [upd_ne (ne_of_none e nx), upd_ne (ne_of_none e ndx)]
      exact e
    refine ⟨x, dx, va, vb, a, b, rfl, upd_same, ha.keep (Keep.of s2), hb.keep (Keep.of s2), fun H3 b3 hB => ⟨rfl, ?_⟩⟩
    have s3 : Same H1 H3 := fun c o e => b3 c o (ne_of_none e nx) (s2 _ _ e)
    obtain ⟨dx3, fs3, va3, vb3, vu3, vv3, h0, hf, _⟩ := id hB
    have nr : fs3.lookup ("reduce" : Str) = none := hf.none _ (by decide +kernel) (by decide +kernel) (by decide +kernel) (by decide +kernel)
    refine ⟨_, rfl, x, dx3, fs3, rfl, h0, nr, x, a, b, rfl, hB, ba, bb, hW.det, fun H4 u v b4 hB4 r1 r2 r3 r4 r5 r6 => ?_⟩
    have s4 : Same H1 H4 := fun c o e => b4 c o (ne_of_none e nx) (s3 _ _ e)
    obtain ⟨dx4, fs4, va4, vb4, vu, vv, g0, gf, ga, gb, gu, gv⟩ := hB4
    refine ⟨_, rfl, _, rfl, _, rfl, x, C, dx4, fs4, vu, rfl, g0, T.cl, T.nu, gf.u, _, rfl, x, C, dx4, fs4, vv, rfl, g0, T.cl, T.nv, gf.v, by show 4 ≤ sizeLine; decide, fun R hR => ?_⟩
    have sR := Same.new (o := .tup [va, vb, vu, vv]) hR
    have kR := Keep.of sR
    exact k R va vb vu vv a b u v _ ((s1.trans s4).trans sR) upd_same ((ha.keep (Keep.of s4)).keep kR) ((hb.keep (Keep.of s4)).keep kR) (gu.keep kR) (gv.keep kR) hW ⟨r1, r2, r3, r4, r5, r6⟩
theorem scBox : FnScope ["certificate", "bound", "a", "b", "u", "v", "area", "first"] ["certificate", "bound"] (defScope sBox) := ⟨rfl, rfl, rfl, by decide +kernel, rfl, by decide +kernel, by decide +kernel⟩
def spBox : Sp := fun vs H Q _ => ∃ c bd va vb vu vv a b u v, vs = [.ref c, .int (bd : Nat)] ∧ bd ≤ 10000000000 ∧ H c = some (.tup [va, vb, vu, vv]) ∧ TP H va a ∧ TP H vb b ∧ TP H vu u ∧ TP H vv v ∧ Bd 200 a ∧ Bd 200 b ∧ cr a b ≠ 0 ∧ Sz a b u ∧ Sz a b v ∧
  ∀ D H', Same H H' → H' D = some (.tup [.int (bd * ((dt v a).natAbs + (dt v b).natAbs) / (cr a b).natAbs : Nat), .int (bd * ((dt u a).natAbs + (dt u b).natAbs) / (cr a b).natAbs : Nat)]) → Q (.ref D) H'
theorem cr_bd {a b : Pt} (ha : Bd 200 a) (hb : Bd 200 b) : (cr a b).natAbs ≤ 80000 := by
  obtain ⟨a1, a2, a3, a4⟩ := ha
  obtain ⟨b1, b2, b3, b4⟩ := hb
  have m1 := mul_bd (A := 200) (B := 200) a1 a2 b3 b4
  have m2 := mul_bd (A := 200) (B := 200) a3 a4 b1 b2
  unfold cr
  omega
theorem far2 {i : Int} (h1 : -1000000000000000000 ≤ i) (h2 : i ≤ 1000000000000000000) : -(2 ^ 64) < i ∧ i < 2 ^ 64 := by
  have e : (2 : Int) ^ 64 = 18446744073709551616 := by decide
  rw [e]; omega
theorem fdiv_nat (a b : Nat) : ((a : Int)).fdiv (b : Int) = ((a / b : Nat) : Int) := by
  rw [Int.fdiv_eq_ediv_of_nonneg _ (by omega)]
  rfl
theorem ok_box {f : Addr} {fd : FuncData} (F : Fun K "box_of" "box_of" sBox f fd) (C1 : Cal P w K mg base 1 "cross_of" ["first", "second"] spCross) (C2 : Cal P w K mg base 1 "dot_of" ["first", "second"] spDot) (m1 : mg "abs" = none) : FnOk P w K mg base CX0 2 f fd ["certificate", "bound"] spBox := by
  refine F.ok scBox (fun vs H Q E h => ?_) (fun cdv A outer s H vs Q E hr h => ?_)
  · obtain ⟨_, _, _, _, _, _, _, _, _, _, rfl, _⟩ := h; rfl
  · obtain ⟨c, bd, va, vb, vu, vv, a, b, u, v, rfl, hbd, hc, ha, hb, hu, hv, ba, bb, hD, zu, zv, k⟩ := h
    have hcr := cr_bd ba bb
    refine ⟨_, pss_cons (ps_asg (pv 0) (pg_tup rfl (pgs_cons (pg_name (i := 2) scBox.nd rfl (Or.inl rfl)) (pgs_cons (pg_name (i := 3) scBox.nd rfl (Or.inl rfl)) (pgs_cons (pg_name (i := 4) scBox.nd rfl (Or.inl rfl)) (pgs_cons (pg_name (i := 5) scBox.nd rfl (Or.inl rfl)) pgs_nil))))))
      (pss_cons (ps_set (i := 6) scBox.nd rfl (Or.inl rfl) (pe_callB call_abs (by rfl) m1 (by decide +kernel) (pa_cons (pe_cal C1 hr rfl (pa_cons (pv 2) (pa_cons (pv 3) pa_nil))) pa_nil)))
      (pss_cons (ps_set (i := 7) scBox.nd rfl (Or.inl rfl) (pe_op op_fdivN (pe_op op_mul (pv 1) (pe_op op_add (pe_callB call_abs (by rfl) m1 (by decide +kernel) (pa_cons (pe_cal C2 hr rfl (pa_cons (pv 5) (pa_cons (pv 2) pa_nil))) pa_nil)) (pe_callB call_abs (by rfl) m1 (by decide +kernel) (pa_cons (pe_cal C2 hr rfl (pa_cons (pv 5) (pa_cons (pv 3) pa_nil))) pa_nil)))) (pv 6)))
      (pss_one (ps_ret (pe_tup (pa_cons (pv 7) (pa_cons (pe_op op_fdivN (pe_op op_mul (pv 1) (pe_op op_add (pe_callB call_abs (by rfl) m1 (by decide +kernel) (pa_cons (pe_cal C2 hr rfl (pa_cons (pv 4) (pa_cons (pv 2) pa_nil))) pa_nil)) (pe_callB call_abs (by rfl) m1 (by decide +kernel) (pa_cons (pe_cal C2 hr rfl (pa_cons (pv 4) (pa_cons (pv 3) pa_nil))) pa_nil)))) (pv 6)) pa_nil))))))), ?_⟩
    refine ⟨_, rfl, c, _, rfl, SqT.of hc, rfl, _, _, rfl, _, _, rfl, _, _, rfl, _, _, rfl, rfl, ?_⟩
    refine ⟨_, rfl, _, rfl, va, vb, a, b, rfl, ha, hb, ba.up (by decide), _, rfl, ?_⟩
    rw [abs_val]
    refine ⟨_, rfl, _, rfl, _, rfl, vv, va, v, a, rfl, hv, ha, zv.bd, _, rfl, ?_⟩
    rw [abs_val]
    refine ⟨_, rfl, _, rfl, vv, vb, v, b, rfl, hv, hb, zv.bd, _, rfl, ?_⟩
    rw [abs_val]
    refine ⟨_, _, rfl, rfl, _, _, rfl, rfl, .inl (far2 (by omega) (by omega)), _, rfl, _, _, rfl, rfl, ⟨by omega, by omega⟩, ?_⟩
    refine ⟨_, rfl, _, rfl, _, rfl, _, rfl, vu, va, u, a, rfl, hu, ha, zu.bd, _, rfl, ?_⟩
    rw [abs_val]
    refine ⟨_, rfl, _, rfl, vu, vb, u, b, rfl, hu, hb, zu.bd, _, rfl, ?_⟩
    rw [abs_val]
    refine ⟨_, _, rfl, rfl, _, _, rfl, rfl, .inl (far2 (by omega) (by omega)), _, rfl, _, _, rfl, rfl, ⟨by omega, by omega⟩, by show 2 ≤ sizeLine; decide, fun D hDn => ?_⟩
    refine k D _ (Same.new hDn) ?_
    rw [upd_same, ← fdiv_nat, ← fdiv_nat]
    push_cast
    rfl
end
end Lat

/-! D15: box_directions, is_normalized. -/
namespace Lat
open PySem PySem.Spec PyProof.Rows L2 Geo Gx
abbrev sNorm : Stmt := top 43
theorem gfor_range {lo : Int} {n : Nat} {g : TG} {tb : TGn} {D : GEnds} {ys : List V} {σ : L2.St} {H : Hp} (Pv : Nat → List V → L2.St → Hp → Prop) (h0 : Pv 0 ys σ H)
    (hs : ∀ (i : Nat) ys σ H, i < n → Pv i ys σ H → g (.int (lo + (i : Nat))) σ H fun σ2 H2 => tb { D with nx := Pv (i + 1), ct := Pv (i + 1), bk := D.nx } ys σ2 H2) (hd : ∀ ys σ H, Pv n ys σ H → D.nx ys σ H) :
    ∃ W : Nat → Nat → List V → L2.St → Hp → Prop, (∃ m, W 0 m ys σ H) ∧ ∀ i m ys σ H, W i m ys σ H →
      ((Itr lo n).stop i H ∧ D.nx ys σ H) ∨ ((Itr lo n).go i H ∧ ∃ N : List V → L2.St → Hp → Prop, (∀ ys' σ' H', N ys' σ' H' → ∃ m', m' < m ∧ W (i + 1) m' ys' σ' H') ∧
        ∀ x H', (Itr lo n).yld i H x H' → g x σ H' fun σ2 H2 => tb { D with nx := N, ct := N, bk := D.nx } ys σ2 H2) := by
  refine ⟨fun i m ys σ H => m = n - i ∧ i ≤ n ∧ Pv i ys σ H, ⟨n, rfl, Nat.zero_le _, h0⟩, fun i m ys σ H ⟨em, hi, p⟩ => ?_⟩
  subst em
  rcases Nat.lt_or_ge i n with hlt | hge
  · refine .inr ⟨hlt, Pv (i + 1), fun ys' σ' H' p' => ⟨n - (i + 1), by omega, rfl, hlt, p'⟩, fun x H' y => ?_⟩
    obtain ⟨e1, e2⟩ := y
    rw [e1, e2]
    exact hs i ys σ H hlt p
  · have e : i = n := Nat.le_antisymm hi hge
    exact .inl ⟨hge, hd ys σ H (e ▸ p)⟩
/-- i u + j v -/
def lin (u v : Pt) (i j : Int) : Pt := (i * u.1 + j * v.1, i * u.2 + j * v.2)
theorem lin_ne {u v : Pt} (h : cr u v = 1 ∨ cr u v = -1) {i j : Int} (hij : ¬ (i = 0 ∧ j = 0)) : lin u v i j ≠ (0, 0) := by
  intro z
  unfold lin at z
  have z1 : i * u.1 + j * v.1 = 0 := congrArg Prod.fst z
  have z2 : i * u.2 + j * v.2 = 0 := congrArg Prod.snd z
  have e1 : i * cr u v = (i * u.1 + j * v.1) * v.2 - (i * u.2 + j * v.2) * v.1 := by unfold cr; grind
  have e2 : j * cr u v = (i * u.2 + j * v.2) * u.1 - (i * u.1 + j * v.1) * u.2 := by unfold cr; grind
  rw [z1, z2] at e1 e2
  simp only [Int.zero_mul, Int.sub_self] at e1 e2
  apply hij
  rcases h with h | h <;> rw [h] at e1 e2 <;> constructor <;> omega
theorem lin_inj {u v : Pt} (h : cr u v = 1 ∨ cr u v = -1) {i j i' j' : Int} (e : lin u v i j = lin u v i' j') : i = i' ∧ j = j' := by
  rcases Classical.em (i - i' = 0 ∧ j - j' = 0) with z | z
  · omega
  · exfalso
    apply lin_ne h z
    unfold lin at *
    have z1 : i * u.1 + j * v.1 = i' * u.1 + j' * v.1 := congrArg Prod.fst e
    have z2 : i * u.2 + j * v.2 = i' * u.2 + j' * v.2 := congrArg Prod.snd e
    have e1 : (i - i') * u.1 + (j - j') * v.1 = i * u.1 + j * v.1 - (i' * u.1 + j' * v.1) := by grind
    have e2 : (i - i') * u.2 + (j - j') * v.2 = i * u.2 + j * v.2 - (i' * u.2 + j' * v.2) := by grind
    rw [e1, e2, z1, z2, Int.sub_self, Int.sub_self]
/-- distinct, not zero, of places within lim -/
structure Lst (u v : Pt) (lim : Int → Int → Prop) (ds : List Pt) : Prop where
  nd : ds.Nodup
  ne : ∀ d ∈ ds, d ≠ (0, 0)
  sub : ∀ d ∈ ds, ∃ i j, d = lin u v i j ∧ lim i j
theorem Lst.mono {u v : Pt} {l l' : Int → Int → Prop} {ds : List Pt} (h : Lst u v l ds) (w : ∀ i j, l i j → l' i j) : Lst u v l' ds :=
  ⟨h.nd, h.ne, fun d hd => let ⟨i, j, e, q⟩ := h.sub d hd; ⟨i, j, e, w i j q⟩⟩
theorem Lst.snoc {u v : Pt} {l l' : Int → Int → Prop} {ds : List Pt} {i j : Int} (h : Lst u v l ds) (hd : cr u v = 1 ∨ cr u v = -1) (hnz : ¬ (i = 0 ∧ j = 0)) (hno : ¬ l i j) (w : ∀ i j, l i j → l' i j) (hl : l' i j) : Lst u v l' (ds ++ [lin u v i j]) := by
  refine ⟨?_, fun d m => ?_, fun d m => ?_⟩
  · refine List.nodup_append.mpr ⟨h.nd, List.nodup_cons.mpr ⟨List.not_mem_nil, List.nodup_nil⟩, fun a ha b hb => ?_⟩
    rw [List.mem_singleton.mp hb]
    rintro rfl
    obtain ⟨i', j', e, q⟩ := h.sub _ ha
    obtain ⟨rfl, rfl⟩ := lin_inj hd e
    exact hno q
  · rcases List.mem_append.mp m with m | m
    · exact h.ne d m
    · rw [List.mem_singleton.mp m]
      exact lin_ne hd hnz
  · rcases List.mem_append.mp m with m | m
    · obtain ⟨i', j', e, q⟩ := h.sub d m
      exact ⟨i', j', e, w _ _ q⟩
    · exact ⟨i, j, List.mem_singleton.mp m, hl⟩
section
variable {P : Program} {w : World} {K : PySem.W.Frag} {mg : Str → Option Value} {base : Heap} {C : Addr}
/-- the directions of a box -/
structure InBox (u v : Pt) (m n : Nat) (ds : List Pt) : Prop where
  ne : ∀ d ∈ ds, d ≠ (0, 0)
  nd : ds.Nodup
  all : ∀ i j : Int, -(m : Int) ≤ i → i ≤ m → -(n : Int) ≤ j → j ≤ n → ¬ (i = 0 ∧ j = 0) → lin u v i j ∈ ds
def spBoxD : SpG := fun vs H Q _ => ∃ c bx va vb vu vv u v m n, vs = [.ref c, .ref bx] ∧ H c = some (.tup [va, vb, vu, vv]) ∧ TP H vu u ∧ TP H vv v ∧ (cr u v = 1 ∨ cr u v = -1) ∧ H bx = some (.tup [.int (m : Nat), .int (n : Nat)]) ∧ m ≤ 8 ∧ n ≤ 8 ∧
  ∀ ys ds H', Same H H' → TPs H' ys ds → ds.length ≤ 289 → InBox u v m n ds → Q ys H'
abbrev nmB : List Str := ["certificate", "box", "u", "v", "i", "j"]
theorem gscB : GScope nmB ["certificate", "box"] (defScope sBoxD) := ⟨rfl, rfl, rfl, by decide, rfl, by decide +kernel, by decide +kernel⟩
theorem ok_boxD {f : Addr} {fd : FuncData} (F : Fun K "box_directions" "box_directions" sBoxD f fd) (m1 : mg "range" = none) : GFn P w K mg base 1 f fd ["certificate", "box"] spBoxD := by
  obtain ⟨oc, od, kV, doc, pm, an, cdv, ct, osl, rfl, lk, hcd⟩ := F.ex
  refine gfn_of (N := nmB) lk hcd gscB (fun vs H Q E h => ?_) (fun A outer s H vs Q E pn hr h => ?_)
  · obtain ⟨_, _, _, _, _, _, _, _, _, _, rfl, _⟩ := h; rfl
  · obtain ⟨c, bx, va, vb, vu, vv, u, v, m, n, rfl, hc, ⟨tu, rfl, hu⟩, ⟨tv, rfl, hv⟩, hdet, hbx, hm, hn, k⟩ := h
    have nd : nmB.Nodup := gscB.nd
    refine ⟨_, gss_cons (gs_ps (ps_par (i := 2) (j := 3) (by rfl) nd rfl rfl (by decide) rfl rfl (pa_cons (pe_ix ix_tup (pv 0) pe_int (fun _ _ => rfl)) (pa_cons (pe_ix ix_tup (pv 0) pe_int (fun _ _ => rfl)) pa_nil)) (by rfl)))
      (gss_cons (gs_for owns_gcx (by rfl) (pi_range2 rfl m1 (pa_cons (pe_un un_neg (pe_ix ix_tup (pv 1) pe_int (fun _ _ => rfl))) (pa_cons (pe_op op_add (pe_ix ix_tup (pv 1) pe_int (fun _ _ => rfl)) pe_int) pa_nil))) (pg_name (i := 4) nd rfl (Or.inl rfl) (.inr rfl))
        (gss_cons (gs_for owns_gcx (by rfl) (pi_range2 rfl m1 (pa_cons (pe_un un_neg (pe_ix ix_tup (pv 1) pe_int (fun _ _ => rfl))) (pa_cons (pe_op op_add (pe_ix ix_tup (pv 1) pe_int (fun _ _ => rfl)) pe_int) pa_nil))) (pg_name (i := 5) nd rfl (Or.inl rfl) (.inr rfl))
          (gss_cons (gs_if (pt_cmpR (op_neD hr.units) (pe_tup (pa_cons (pv 4) (pa_cons (pv 5) pa_nil))) (pe_tup (pa_cons pe_int (pa_cons pe_int pa_nil))) (nomark _))
            (gss_cons (gs_yield (pe_tup (pa_cons (pe_op op_add (pe_op op_mul (pv 4) (pe_ix ix_tup (pv 2) pe_int (fun _ _ => rfl))) (pe_op op_mul (pv 5) (pe_ix ix_tup (pv 3) pe_int (fun _ _ => rfl))))
              (pa_cons (pe_op op_add (pe_op op_mul (pv 4) (pe_ix ix_tup (pv 2) pe_int (fun _ _ => rfl))) (pe_op op_mul (pv 5) (pe_ix ix_tup (pv 3) pe_int (fun _ _ => rfl)))) pa_nil)))) gss_nil) gss_nil) gss_nil)) gss_nil)) gss_nil), ?_⟩
    refine ⟨_, rfl, c, _, 2, _, rfl, rfl, SqT.of hc, atI_nat (j := 2) rfl, _, rfl, c, _, 3, _, rfl, rfl, SqT.of hc, atI_nat (j := 3) rfl, _, _, rfl, ?_⟩
    refine ⟨_, rfl, bx, _, 0, _, rfl, rfl, SqT.of hbx, atI_nat (j := 0) rfl, _, rfl, _, rfl, bx, _, 0, _, rfl, rfl, SqT.of hbx, atI_nat (j := 0) rfl, _, _, rfl, rfl, _, _, rfl, ⟨by omega, by omega, by omega, by omega⟩, ?_⟩
    have em : ((m : Int) + 1 - -(m : Int)).toNat = 2 * m + 1 := by omega
    have en : ((n : Int) + 1 - -(n : Int)).toNat = 2 * n + 1 := by omega
    rw [em]
    refine gfor_range (fun i ys σ H' => Same H H' ∧ (∃ a4 a5, σ = [some (.ref c), some (.ref bx), some (.ref tu), some (.ref tv), a4, a5]) ∧ ∃ ds, TPs H' ys ds ∧ ds.length ≤ i * 17 ∧ Lst u v (fun i' _ => i' < -(m : Int) + i) ds ∧ ∀ i' j : Int, -(m : Int) ≤ i' → i' < -(m : Int) + i → -(n : Int) ≤ j → j ≤ n → ¬ (i' = 0 ∧ j = 0) → lin u v i' j ∈ ds)
      ⟨Same.refl _, ⟨_, _, rfl⟩, [], .nil, by simp, ⟨List.nodup_nil, (fun d h => nomatch h), (fun d h => nomatch h)⟩, fun i' j h1 h2 => by omega⟩ ?_ (fun ys σ H' h => ?_)
    · rintro i ys σ H' hi ⟨s1, ⟨a4, a5, rfl⟩, ds, hds, hlen, hne, hall⟩
      have hbx1 := s1 _ _ hbx
      refine ⟨_, rfl, bx, _, 1, _, rfl, rfl, SqT.of hbx1, atI_nat (j := 1) rfl, _, rfl, _, rfl, bx, _, 1, _, rfl, rfl, SqT.of hbx1, atI_nat (j := 1) rfl, _, _, rfl, rfl, _, _, rfl, ⟨by omega, by omega, by omega, by omega⟩, ?_⟩
      rw [en]
      refine gfor_range (fun j ys σ H' => Same H H' ∧ (∃ a5, σ = [some (.ref c), some (.ref bx), some (.ref tu), some (.ref tv), some (.int (-(m : Int) + (i : Nat))), a5]) ∧ ∃ ds, TPs H' ys ds ∧ ds.length ≤ i * 17 + j ∧ Lst u v (fun i' j' => i' < -(m : Int) + i ∨ (i' = -(m : Int) + i ∧ j' < -(n : Int) + j)) ds ∧ (∀ i' j : Int, -(m : Int) ≤ i' → i' < -(m : Int) + i → -(n : Int) ≤ j → j ≤ n → ¬ (i' = 0 ∧ j = 0) → lin u v i' j ∈ ds) ∧
          ∀ j' : Int, -(n : Int) ≤ j' → j' < -(n : Int) + j → ¬ ((-(m : Int) + (i : Nat)) = 0 ∧ j' = 0) → lin u v (-(m : Int) + (i : Nat)) j' ∈ ds)
        ⟨s1, ⟨_, rfl⟩, ds, hds, by omega, hne.mono (fun _ _ h => .inl h), hall, fun j' h1 h2 => by omega⟩ ?_ (fun ys σ H' h => ?_)
      · rintro j ys σ H' hj ⟨s2, ⟨a5, rfl⟩, ds, hds, hlen, hne, hall, hrow⟩
        refine ⟨_, rfl, _, rfl, by show 2 ≤ sizeLine; decide, fun t1 ht1 => ⟨by show 2 ≤ sizeLine; decide, fun t2 ht2 => ?_⟩⟩
        have sa : Same H' (upd H' t1 (.tup [.int (-(m : Int) + (i : Nat)), .int (-(n : Int) + (j : Nat))])) := Same.new ht1
        have sb2 := sa.trans (Same.new (o := .tup [.int 0, .int 0]) ht2)
        have n12 : t1 ≠ t2 := ne_of_none upd_same ht2
        refine ⟨.tuple [.int (-(m : Int) + (i : Nat)), .int (-(n : Int) + (j : Nat))], .tuple [.int 0, .int 0], dp_pt (p := (-(m : Int) + (i : Nat), -(n : Int) + (j : Nat))) ⟨t1, rfl, by rw [upd_ne n12, upd_same]⟩, dp_pt (p := (0, 0)) ⟨t2, rfl, upd_same⟩, rfl, rfl, _, rfl, ?_⟩
        have e := eqv_pt (p := (-(m : Int) + (i : Nat), -(n : Int) + (j : Nat))) (q := (0, 0))
        have s3 := s2.trans sb2
        refine ite2 (fun wz => ?_) (fun wz => ?_)
        · have hnz : ¬ ((-(m : Int) + (i : Nat)) = 0 ∧ (-(n : Int) + (j : Nat)) = 0) := fun ⟨z1, z2⟩ => by
            have e2 : PyData.eqv (.tuple [.int (-(m : Int) + (i : Nat)), .int (-(n : Int) + (j : Nat))]) (.tuple [.int 0, .int 0]) = true := by
              refine e.trans (decide_eq_true ?_)
              show (-(m : Int) + (i : Nat), -(n : Int) + (j : Nat)) = ((0, 0) : Pt)
              rw [z1, z2]
            rw [e2] at wz
            exact Bool.noConfusion wz
          have hu3 := s3 _ _ hu
          have hv3 := s3 _ _ hv
          refine ⟨?_, ?_⟩
          · have := hds.len
            exact smallLine (by omega)
          · refine ⟨_, rfl, _, rfl, tu, _, 0, _, rfl, rfl, SqT.of hu3, atI_nat (j := 0) rfl, _, _, rfl, rfl, .inl (far (by omega) (by omega)), _, rfl, _, rfl, tv, _, 0, _, rfl, rfl, SqT.of hv3, atI_nat (j := 0) rfl, _, _, rfl, rfl, .inl (far (by omega) (by omega)), _, _, rfl, rfl, ?_⟩
            refine ⟨_, rfl, _, rfl, tu, _, 1, _, rfl, rfl, SqT.of hu3, atI_nat (j := 1) rfl, _, _, rfl, rfl, .inl (far (by omega) (by omega)), _, rfl, _, rfl, tv, _, 1, _, rfl, rfl, SqT.of hv3, atI_nat (j := 1) rfl, _, _, rfl, rfl, .inl (far (by omega) (by omega)), _, _, rfl, rfl, ?_⟩
            refine ⟨by show 2 ≤ sizeLine; decide, fun t ht => ?_⟩
            have st := Same.new (o := .tup [.int (lin u v (-(m : Int) + (i : Nat)) (-(n : Int) + (j : Nat))).1, .int (lin u v (-(m : Int) + (i : Nat)) (-(n : Int) + (j : Nat))).2]) ht
            refine ⟨s3.trans st, ⟨_, rfl⟩, ds ++ [lin u v (-(m : Int) + (i : Nat)) (-(n : Int) + (j : Nat))], ((hds.keep (Keep.of sb2)).keep (Keep.of st)).snoc ⟨t, rfl, upd_same⟩, ?_, hne.snoc hdet hnz (fun z => by omega) (fun i' j' h => by omega) (by omega), fun i' j' h1 h2 h3 h4 h5 => ?_, fun j' h1 h2 h3 => ?_⟩
            · rw [List.length_append]; simp only [List.length_singleton]; omega
            · exact List.mem_append_left _ (hall i' j' h1 h2 h3 h4 h5)
            · by_cases hj' : j' = -(n : Int) + (j : Nat)
              · subst hj'
                exact List.mem_append_right _ List.mem_cons_self
              · exact List.mem_append_left _ (hrow j' h1 (by omega) h3)
        · have hz : (-(m : Int) + (i : Nat)) = 0 ∧ (-(n : Int) + (j : Nat)) = 0 := by
            rcases Classical.em ((-(m : Int) + (i : Nat)) = 0 ∧ (-(n : Int) + (j : Nat)) = 0) with z | z
            · exact z
            · exfalso
              apply wz
              have e2 : PyData.eqv (.tuple [.int (-(m : Int) + (i : Nat)), .int (-(n : Int) + (j : Nat))]) (.tuple [.int 0, .int 0]) = false := by
                refine e.trans (decide_eq_false (fun q => z ?_))
                exact ⟨congrArg Prod.fst q, congrArg Prod.snd q⟩
              rw [e2]
              rfl
          refine ⟨s3, ⟨_, rfl⟩, ds, hds.keep (Keep.of sb2), by omega, hne.mono (fun i' j' h => by omega), hall, fun j' h1 h2 h3 => ?_⟩
          by_cases hj' : j' = -(n : Int) + (j : Nat)
          · exact absurd ⟨hz.1, by omega⟩ h3
          · exact hrow j' h1 (by omega) h3
      · obtain ⟨s2, ⟨a5, rfl⟩, ds, hds, hlen, hne, hall, hrow⟩ := h
        refine ⟨s2, ⟨_, _, rfl⟩, ds, hds, by omega, hne.mono (fun i' j' h => by omega), fun i' j h1 h2 h3 h4 h5 => ?_⟩
        by_cases hi' : i' = -(m : Int) + (i : Nat)
        · subst hi'
          exact hrow j h3 (by omega) h5
        · exact hall i' j h1 (by omega) h3 h4 h5
    · obtain ⟨s1, _, ds, hds, hlen, hne, hall⟩ := h
      exact k ys ds H' s1 hds (by omega) ⟨hne.ne, hne.nd, fun i j h1 h2 h3 h4 h5 => hall i j h1 (by omega) h3 h4 h5⟩
theorem scNorm : FnScope ["direction"] ["direction"] (defScope sNorm) := ⟨rfl, rfl, rfl, by decide +kernel, rfl, by decide +kernel, by decide +kernel⟩
instance decNz (d : Pt) : Decidable (Nz d) := by unfold Nz; infer_instance
def spNorm : Sp := fun vs H Q _ => ∃ v d, vs = [v] ∧ TP H v d ∧ ∀ H', Same H H' → Q (.bl (decide (Nz d))) H'
theorem ok_norm {f : Addr} {fd : FuncData} (F : Fun K "is_normalized" "is_normalized" sNorm f fd) (C1 : Cal P w K mg base 2 "content_of" ["point"] spContent) : FnOk P w K mg base CX0 3 f fd ["direction"] spNorm := by
  refine F.ok scNorm (fun vs H Q E h => ?_) (fun cdv A outer s H vs Q E hr h => ?_)
  · obtain ⟨_, _, rfl, _⟩ := h; rfl
  · obtain ⟨v, d, rfl, hd, k⟩ := h
    refine ⟨_, pss_one (ps_ret (pe_and (pe_cmpR op_eq (pe_cal C1 hr rfl (pa_cons (pv 0) pa_nil)) pe_int (nomark _)) (pe_one (pe_cmpR (op_gtP hr.units) (pv 0) (pe_tup (pa_cons pe_int (pa_cons pe_int pa_nil))) (nomark _))))), ?_⟩
    refine ⟨_, rfl, v, d, rfl, hd, rfl, _, rfl, ?_⟩
    by_cases hg : Int.gcd d.1 d.2 = 1
    · rw [decide_eq_true (show V.int (Int.gcd d.1 d.2 : Nat) = V.int 1 by rw [hg]; rfl)]
      refine iteT ⟨_, rfl, by show 2 ≤ sizeLine; decide, fun t ht => ⟨d, (0, 0), hd.keep (Keep.new ht), ⟨t, rfl, upd_same⟩, ?_⟩⟩
      have e : decide (Lx (0, 0) d) = decide (Nz d) := by
        by_cases hl : Lx (0, 0) d
        · rw [decide_eq_true hl, decide_eq_true (show Nz d from ⟨hg, hl⟩)]
        · rw [decide_eq_false hl, decide_eq_false (show ¬ Nz d from fun z => hl z.2)]
      rw [e]
      exact k _ (Same.new ht)
    · rw [decide_eq_false (show ¬ (V.int (Int.gcd d.1 d.2 : Nat) = V.int 1) from fun z => hg (by have := V.int.inj z; omega))]
      refine iteF ?_
      have e : decide (Nz d) = false := decide_eq_false (fun z => hg z.1)
      rw [← e]
      exact k _ (Same.refl _)
end
end Lat

/-! Gy2: sorted points. -/
namespace Lat
open PySem PySem.Spec PyProof.Rows L2 Geo Gx
theorem lx_total {p q : Pt} (h : ¬ Lx q p) (n : p ≠ q) : Lx p q := by
  obtain ⟨a, b⟩ := p
  obtain ⟨c, d⟩ := q
  unfold Lx at *
  simp only at *
  have : ¬ (a = c ∧ b = d) := fun z => n (by rw [z.1, z.2])
  omega
theorem asc_of : ∀ {l : List Pt}, l.Pairwise (fun p q => ¬ Lx q p) → l.Nodup → l.Pairwise Lx
  | [], _, _ => .nil
  | p :: l, h, n => by
    obtain ⟨h1, h2⟩ := List.pairwise_cons.mp h
    obtain ⟨n1, n2⟩ := List.nodup_cons.mp n
    exact List.pairwise_cons.mpr ⟨fun q hq => lx_total (h1 q hq) (fun z => n1 (z ▸ hq)), asc_of h2 n2⟩
open Classical in
/-- the point that a value is -/
noncomputable def ptOf (H : Hp) (v : V) : Pt := if h : ∃ p, TP H v p then h.choose else (0, 0)
theorem TP.uniq {H : Hp} {v : V} {p q : Pt} (a : TP H v p) (b : TP H v q) : p = q := by
  obtain ⟨t, rfl, h1⟩ := a
  obtain ⟨t', e, h2⟩ := b
  cases e
  rw [h1] at h2
  injection h2 with h2
  injection h2 with h2
  injection h2 with e1 h2
  injection h2 with e2 _
  injection e1 with e1
  injection e2 with e2
  exact Prod.ext e1 e2
theorem ptOf_eq {H : Hp} {v : V} {p : Pt} (h : TP H v p) : ptOf H v = p := by
  have hx : ∃ p, TP H v p := ⟨p, h⟩
  unfold ptOf
  rw [dif_pos hx]
  exact hx.choose_spec.uniq h
theorem TPs.map {H : Hp} : ∀ {vs ps}, TPs H vs ps → ps = vs.map (ptOf H)
  | _, _, .nil => rfl
  | _, _, .cons a b => by rw [List.map_cons, ptOf_eq a, ← TPs.map b]
theorem tps_map {H : Hp} : ∀ {vs : List V}, (∀ v ∈ vs, TP H v (ptOf H v)) → TPs H vs (vs.map (ptOf H))
  | [], _ => .nil
  | v :: vs, h => .cons (h v List.mem_cons_self) (tps_map fun x hx => h x (List.mem_cons_of_mem _ hx))
theorem TPs.each {H : Hp} : ∀ {vs ps}, TPs H vs ps → ∀ v ∈ vs, TP H v (ptOf H v)
  | _, _, .cons a b, v, hv => by
    rcases List.mem_cons.mp hv with rfl | hv
    · rw [ptOf_eq a]; exact a
    · exact TPs.each b v hv
section
variable {X : Cx}
def rSortP (K : PySem.W.Frag) : List V → Hp → VK → Prop := fun vs H Q => ∃ (a : Addr) (xs : List V) (ps : List Pt), vs = [.ref a] ∧ SqL K H a xs ∧ TPs H xs ps ∧
  ∀ ys qs L, H L = none → TPs H ys qs → qs.Perm ps → qs.Pairwise (fun p q => ¬ Lx q p) → Q (.ref L) (upd H L (.lst ys))
theorem cr_sortP : CallR X (.builtin "sorted") (rSortP X.K) := by
  intro pins s σ H vs us Q I r h
  obtain ⟨a, xs, ps, rfl, hs, hp, k⟩ := h
  refine cr_sortedPO pins s σ H _ us Q I r ⟨a, xs, ptOf H, rfl, hs, fun x hx => ?_, fun ys L h1 h2 hL => ?_⟩
  · obtain ⟨t, e, h⟩ := hp.each x hx
    exact ⟨t, e, h⟩
  · refine k ys (ys.map (ptOf H)) L hL (tps_map fun v hv => hp.each v (h2.perm.mem_iff.mp hv)) ?_ ?_
    · rw [hp.map]
      exact h2.perm.map _
    · refine List.pairwise_map.mpr (List.Pairwise.imp (fun {x y} h => ?_) h1)
      exact SrtO.lexB_no.mp h
end
end Lat

/-! D16: least_width. -/
namespace Lat
open PySem PySem.Spec PyProof.Rows L2 Geo Gx
abbrev sLW : Stmt := top 44
theorem no_x0 {X : Cx} : Passes (L2.CX X.prog X.w) X E0 := fun _ _ _ _ _ _ _ ⟨_, _, _, _, _, _, _, _, _, _, _, _, z⟩ => z.elim
theorem no_stop {K : PySem.W.Frag} : NoStop K E0 := fun _ _ _ z => z.elim
structure GenC (P : Program) (w : World) (K : PySem.W.Frag) (mg : Str → Option Value) (base : Heap) (k : Nat) (x : Str) (ps : List Str) (sp : SpG) : Prop where
  ex : ∃ f fd, GFn P w K mg base k f fd ps sp ∧ mg x = some (.ref f) ∧ PySem.W.keepIn K (.ref f) = true ∧ Binds K fd ps []
theorem pgen_cal {X : Cx} {k : Nat} {x : Str} {ps : List Str} {sp : SpG} {p pos : Pos} {e : Expr} {es : List Expr} {t : TA} (C : GenC X.prog X.w X.K X.mg X.base k x ps sp) (hr : Room k X.A) (hg : Gl X x) (ha : PA X (e :: es) t) (hdb : (x == ("__debug__" : Str)) = false := by decide)
    (he : starEach (e :: es) X.env = (false, eval e X.env) :: starEach es X.env := by rfl) (hpl : (backTo pos (starEach es X.env)).any (·.1) = false := by rfl) : PGen X k (.Call (.Name x p) (e :: es) [] pos) (tCallG sp [] E0 t) E0 := by
  obtain ⟨f, fd, F, hm, hk, hb⟩ := C.ex
  exact pgen_call F hr hg hm hk hb .nil ha hdb he hpl
/-- the list of widths along ds, as far as i -/
def wAcc (ps ds : List Pt) (i : Nat) : List V := ((ds.map (W ps)).take i).map V.int
theorem wAcc_succ {ps ds : List Pt} {i : Nat} (h : i < ds.length) : wAcc ps ds (i + 1) = wAcc ps ds i ++ [V.int (W ps (at' ds i))] := by
  unfold wAcc
  rw [List.take_add_one, List.getElem?_map, at_get h, List.map_append]
  rfl
theorem wAcc_len (ps ds : List Pt) (i : Nat) : (wAcc ps ds i).length ≤ ds.length := by
  unfold wAcc
  simp only [List.length_map, List.length_take]
  omega
theorem wAcc_all (ps ds : List Pt) {n : Nat} (h : n = ds.length) : wAcc ps ds n = (ds.map (W ps)).map V.int := by
  unfold wAcc
  rw [List.take_of_length_le (by rw [List.length_map]; omega)]
section
variable {P : Program} {w : World} {K : PySem.W.Frag} {mg : Str → Option Value} {base : Heap} {C : Addr}
theorem scLW : FnScope ["polygon", "corners", "certificate", "bound", "near", "least", "found", "direction", "one"] ["polygon"] (defScope sLW) := ⟨rfl, rfl, rfl, by decide +kernel, rfl, by decide +kernel, by decide +kernel⟩
def spLW (C : Addr) : Sp := fun vs H Q _ => ∃ p ps, vs = [.ref p] ∧ PolyAt C H p ps ∧ Cv ps ∧ Unit ps ∧ ∀ D L H' M vs ds, LW ps M ds → Same H H' → H' D = some (.tup [.int M, .ref L]) → H' L = some (.lst vs) → TPs H' vs ds → Q (.ref D) H'
theorem ok_LW {f : Addr} {fd : FuncData} (F : Fun K "least_width" "least_width" sLW f fd) (T : PoT K mg C) (G : CoT P w K mg base C) (C1 : Cal P w K mg base 1 "check_polygon" ["value"] (spChkPoly C)) (C2 : Cal P w K mg base 4 "certificate_for" ["corners"] spCert) (C3 : Cal P w K mg base 2 "width_along" ["corners", "direction"] spWAl)
    (C4 : Cal P w K mg base 2 "box_of" ["certificate", "bound"] spBox) (C5 : GenC P w K mg base 1 "box_directions" ["certificate", "box"] spBoxD) (C6 : Cal P w K mg base 3 "is_normalized" ["direction"] spNorm) (m1 : mg "min" = none) (m2 : mg "list" = none) (m3 : mg "sorted" = none) :
    FnOk P w K mg base CX0 5 f fd ["polygon"] (spLW C) := by
  refine F.ok scLW (fun vs H Q E h => ?_) (fun cdv A outer s H vs Q E hr h => ?_)
  · obtain ⟨_, _, rfl, _⟩ := h; rfl
  · obtain ⟨p, ps, rfl, hp, cv, hU, k⟩ := h
    have hr1 := hr.mono (show 1 ≤ 4 by decide)
    have hr2 := hr.mono (show 2 ≤ 4 by decide)
    have hr3 := hr.mono (show 3 ≤ 4 by decide)
    refine ⟨_, pss_cons (ps_expr (pe_cal C1 hr1 rfl (pa_cons (pv 0) pa_nil)))
      (pss_cons (ps_set (i := 1) scLW.nd rfl (Or.inr rfl) (pe_corners T G hr2 (pv 0) rfl))
      (pss_cons (ps_set (i := 2) scLW.nd rfl (Or.inl rfl) (pe_cal C2 hr rfl (pa_cons (pv 1) pa_nil)))
      (pss_cons (ps_set (i := 3) scLW.nd rfl (Or.inl rfl) (pe_callB (cr_min rfl) (by rfl) m1 (by decide +kernel) (pa_cons (pe_lc (own := [("direction", 7)]) (g := gName 7) (tt := tYes) rfl scLW.nd (pi_tup (pe_slice sl_tup (pv 2) (po_some pe_int) po_none))
          (blkOk_by (own := [("direction", 7)]) (N := ["polygon", "corners", "certificate", "bound", "near", "least", "found", "direction", "one"]) (sc := defScope sLW) (by decide +kernel))
          (fun _ _ _ _ _ => pg_name (i := 7) scLW.nd rfl (Or.inl rfl)) (fun _ _ _ _ _ => pts_nil) (fun _ _ _ _ _ => pe_cal C3 hr2 rfl (pa_cons (pv 1) (pa_cons (pv 7) pa_nil)))) pa_nil)))
      (pss_cons (ps_set (i := 4) scLW.nd rfl (Or.inl rfl) (pe_listG (pgen_cal C5 hr1 rfl (pa_cons (pv 2) (pa_cons (pe_cal C4 hr2 rfl (pa_cons (pv 2) (pa_cons (pv 3) pa_nil))) pa_nil))) no_x0 no_stop hr (by rfl) m2 (by decide +kernel)))
      (pss_cons (ps_set (i := 5) scLW.nd rfl (Or.inr rfl) (pe_callB (cr_min rfl) (by rfl) m1 (by decide +kernel) (pa_cons (pe_lc (own := [("direction", 7)]) (g := gName 7) (tt := tYes) rfl scLW.nd (pi_list (pv 4))
          (blkOk_by (own := [("direction", 7)]) (N := ["polygon", "corners", "certificate", "bound", "near", "least", "found", "direction", "one"]) (sc := defScope sLW) (by decide +kernel))
          (fun _ _ _ _ _ => pg_name (i := 7) scLW.nd rfl (Or.inl rfl)) (fun _ _ _ _ _ => pts_nil) (fun _ _ _ _ _ => pe_cal C3 hr2 rfl (pa_cons (pv 1) (pa_cons (pv 7) pa_nil)))) pa_nil)))
      (pss_cons (ps_setLc (i := 6) (own := [("one", 8)]) (g := gName 8) rfl scLW.nd rfl rfl (sw_true rfl rfl rfl (by decide +kernel)) (pi_list (pv 4))
          (blkOk_by (own := [("one", 8)]) (N := ["polygon", "corners", "certificate", "bound", "near", "least", "found", "direction", "one"]) (sc := defScope sLW) (by decide +kernel))
          (fun _ _ _ _ _ => pg_name (i := 8) scLW.nd rfl (Or.inl rfl)) (fun _ _ _ _ _ => pts_one (PW.pt (pw_and (pt_cmpR op_eq (pe_cal C3 hr2 rfl (pa_cons (pv 1) (pa_cons (pv 8) pa_nil))) (pv 5) (nomark _)) (pw_and1 (pt_val (pe_cal C6 hr3 rfl (pa_cons (pv 8) pa_nil)))))))
          (fun _ _ _ _ _ => pv 8))
      (pss_one (ps_ret (pe_tup (pa_cons (pv 5) (pa_cons (pe_callB cr_sortP (by rfl) m3 (by decide +kernel) (pa_cons (pv 6) pa_nil)) pa_nil))))))))))), ?_⟩
    obtain ⟨dx, fs, D0, xs, h1, h2, h3, h4⟩ := hp
    refine ⟨_, rfl, p, dx, fs, rfl, h1, ?_⟩
    refine ⟨_, rfl, p, dx, fs, rfl, h1, p, dx, fs, _, rfl, h1, h2, ?_⟩
    refine ⟨_, rfl, D0, xs, ps, rfl, h3, h4, cv, fun ce va vb vu vv a b u v H1 s1 hce ha hb hu hv hW hR => ?_⟩
    have h3a := s1 _ _ h3
    have h4a := h4.keep (Keep.of s1)
    have nw : ¬ (HT.sIx 4 0 (some 2) = 0 ∧ HT.sIx 4 4 none = 4) := by decide
    refine ⟨_, rfl, _, rfl, ce, _, rfl, SqT.of hce, nw, fun S hS => ?_⟩
    have cut : cutV [va, vb, vu, vv] (some 2) none = [vu, vv] := by
      rw [show (some (2 : Int)) = some ((2 : Nat) : Int) from rfl, cutV_from]; rfl
    rw [cut]
    have s2 : Same H1 (upd H1 S (.tup [vu, vv])) := Same.new hS
    have hduv : TPs (upd H1 S (.tup [vu, vv])) [vu, vv] [u, v] := .cons (hu.keep (Keep.of s2)) (.cons (hv.keep (Keep.of s2)) .nil)
    refine ⟨S, rfl, ⟨_, SqT.of upd_same⟩, fun L1 hL1 => lc_tup (xs := [vu, vv]) (fun i H' => Same (upd H1 S (.tup [vu, vv])) H' ∧ H' L1 = some (.lst (wAcc ps [u, v] i))) ⟨Same.new hL1, upd_same⟩ (fun i H' _ h => SqT.of (h.1 _ _ upd_same)) (fun i x H' hx h => ?_) (fun H' h => ?_)⟩
    · obtain ⟨t1, t2⟩ := h
      obtain ⟨hi, hq⟩ := hduv.at hx
      have t3 := s2.trans t1
      refine ⟨rfl, tyes ⟨_, rfl, _, rfl, D0, x, xs, ps, _, rfl, t3 _ _ h3a, h4a.keep (Keep.of t3), cv, hq.keep (Keep.of t1), fun H'' t4 => ⟨_, t4 _ _ t2, ?_, Same.over (t1.trans t4) hL1, ?_⟩⟩⟩
      · exact smallLine (Nat.le_trans (wAcc_len _ _ _) (by show 2 ≤ 100000; decide))
      · rw [wAcc_succ hi, upd_same]
    obtain ⟨t1, t2⟩ := h
    have t2 : H' L1 = some (.lst ((([u, v] : List Pt).map (W ps)).map V.int)) := t2.trans (by rw [show ([vu, vv] : List V).length = ([u, v] : List Pt).length from rfl, wAcc_all ps [u, v] rfl])
    refine ⟨L1, _, rfl, SqL.of t2, by show 0 < 2; decide, fun bd hbm hble => ?_⟩
    have hbu : bd ≤ W ps u := hble _ (List.mem_cons_self)
    have hbv : bd ≤ W ps v := hble _ (List.mem_cons_of_mem _ List.mem_cons_self)
    have hbuv : bd = W ps u ∨ bd = W ps v := by
      rcases List.mem_cons.mp hbm with z | z
      · exact .inl z
      · exact .inr (List.mem_singleton.mp z)
    have zu := hR.zu
    have zv := hR.zv
    have hne := hU.ne
    obtain ⟨pp, qq, rr, hpp, hqq, hrr, ea, eb⟩ := hW.ex
    have wu := W_two hne hpp hqq hrr ea eb hW.det hW.tri u
    have wv := W_two hne hpp hqq hrr ea eb hW.det hW.tri v
    have wu0 := W_nonneg hne u
    have wv0 := W_nonneg hne v
    obtain ⟨ba, bb⟩ := hW.bds cv
    obtain ⟨bdn, rfl⟩ : ∃ n : Nat, bd = (n : Int) := ⟨bd.toNat, by omega⟩
    have hbdle : bdn ≤ 10000000000 := by
      have d1 := zu.da
      have d2 := zu.db
      omega
    have t3 := s2.trans t1
    have hbs := box_small (bd := bdn) hW.det hR.det hR.st hR.lo hR.hi (by omega)
    refine ⟨_, rfl, _, rfl, _, rfl, ce, bdn, va, vb, vu, vv, a, b, u, v, rfl, hbdle, t3 _ _ hce, ha.keep (Keep.of t3), hb.keep (Keep.of t3), hu.keep (Keep.of t3), hv.keep (Keep.of t3), ba, bb, hW.det, zu, zv, fun Bx H2 t5 hBx => ?_⟩
    have t6 := t3.trans t5
    refine ⟨ce, Bx, va, vb, vu, vv, u, v, _, _, rfl, t6 _ _ hce, hu.keep (Keep.of t6), hv.keep (Keep.of t6), hR.det, hBx, hbs.1, hbs.2, fun ys ds H3 t7 hys hlen hIn => fun Ln hLn => ?_⟩
    have t8 := (t6.trans t7).trans (Same.new (o := .lst ys) hLn)
    have hys8 : TPs (upd H3 Ln (.lst ys)) ys ds := hys.keep (Keep.new hLn)
    have inb : ∀ d, d ≠ (0, 0) → W ps d ≤ bdn → d ∈ ds := fun d hd hw => by
      obtain ⟨i, j, ed, hi, hj⟩ := in_box hqq hpp hrr hpp ea eb hW.det hR.det d hw
      rw [ed]
      refine hIn.all i j (by omega) (by omega) (by omega) (by omega) (fun z => hd ?_)
      rw [ed, z.1, z.2]
      simp
    have un : u ≠ (0, 0) := fun z => by
      have := hR.det
      rw [z] at this
      unfold cr at this
      simp at this
    have vn : v ≠ (0, 0) := fun z => by
      have := hR.det
      rw [z] at this
      unfold cr at this
      simp at this
    have hB : ∃ d ∈ ds, W ps d ≤ bdn := by
      rcases hbuv with z | z
      · exact ⟨u, inb u un (by omega), by omega⟩
      · exact ⟨v, inb v vn (by omega), by omega⟩
    have hdpos : 0 < ds.length := by
      obtain ⟨d, hd, _⟩ := hB
      exact List.length_pos_of_mem hd
    have h3b := t8 _ _ h3a
    have h4b := h4a.keep (Keep.of t8)
    have elen := hys8.len
    refine ⟨_, rfl, Ln, rfl, ⟨_, SqL.of upd_same⟩, fun L2 hL2 => lc_list (xs := ys) (fun i H'' => Same (upd H3 Ln (.lst ys)) H'' ∧ H'' L2 = some (.lst (wAcc ps ds i))) ⟨Same.new hL2, upd_same⟩ (fun i H'' _ h => SqL.of (h.1 _ _ upd_same)) (fun i x H'' hx h => ?_) (fun H'' h => ?_)⟩
    · obtain ⟨r1, r2⟩ := h
      obtain ⟨hi, hq⟩ := hys8.at hx
      refine ⟨rfl, tyes ⟨_, rfl, _, rfl, D0, x, xs, ps, _, rfl, r1 _ _ h3b, h4b.keep (Keep.of r1), cv, hq.keep (Keep.of r1), fun H9 r4 => ⟨_, r4 _ _ r2, ?_, Same.over (r1.trans r4) hL2, ?_⟩⟩⟩
      · exact smallLine (Nat.le_trans (wAcc_len _ _ _) (by omega))
      · rw [wAcc_succ hi, upd_same]
    obtain ⟨r1, r2⟩ := h
    rw [wAcc_all ps ds elen] at r2
    refine ⟨L2, _, rfl, SqL.of r2, by rw [List.length_map]; exact hdpos, fun M hMm hMle => ?_⟩
    have hMx : ∃ d ∈ ds, W ps d = M := List.mem_map.mp hMm
    have hMl : ∀ d ∈ ds, M ≤ W ps d := fun d hd => hMle _ (List.mem_map.mpr ⟨d, hd, rfl⟩)
    have hysM := hys8.keep (Keep.of r1)
    have h3c := r1 _ _ h3b
    have h4c := h4b.keep (Keep.of r1)
    refine ⟨_, rfl, Ln, rfl, ⟨_, SqL.of (r1 _ _ upd_same)⟩, fun L3 hL3 => lc_list (xs := ys) (fun i H6 => Same H'' H6 ∧ ∃ acc, H6 L3 = some (.lst acc) ∧ TPs H6 acc ((ds.take i).filter fun d => decide (W ps d = M ∧ Nz d))) ⟨Same.new hL3, [], upd_same, .nil⟩ (fun i H6 _ h => SqL.of (h.1 _ _ (r1 _ _ upd_same))) (fun i x H6 hx h => ?_) (fun H6 h => ?_)⟩
    · obtain ⟨q1, acc, q2, q3⟩ := h
      obtain ⟨hi, hq⟩ := hysM.at hx
      have etake : (ds.take (i + 1)).filter (fun d => decide (W ps d = M ∧ Nz d)) = (ds.take i).filter (fun d => decide (W ps d = M ∧ Nz d)) ++ (if W ps (at' ds i) = M ∧ Nz (at' ds i) then [at' ds i] else []) := by
        rw [List.take_add_one, at_get hi, List.filter_append]
        congr 1
        show List.filter _ [at' ds i] = _
        rw [List.filter_cons, List.filter_nil]
        by_cases hc : W ps (at' ds i) = M ∧ Nz (at' ds i)
        · rw [if_pos hc, if_pos (decide_eq_true hc)]
        · rw [if_neg hc, if_neg (fun z => hc (of_decide_eq_true z))]
      refine ⟨rfl, _, rfl, _, rfl, D0, x, xs, ps, at' ds i, rfl, q1 _ _ h3c, h4c.keep (Keep.of q1), cv, hq.keep (Keep.of q1), fun H7 q4 => ⟨_, rfl, rfl, _, rfl, ?_⟩⟩
      refine ite2 (fun z => ?_) (fun z => ?_)
      · have ez : W ps (at' ds i) = M := V.int.inj (of_decide_eq_true z)
        refine ⟨_, rfl, x, at' ds i, rfl, hq.keep (Keep.of (q1.trans q4)), fun H8 q5 => ⟨_, rfl, ?_⟩⟩
        have q45 := q4.trans q5
        refine ite2 (fun z2 => ?_) (fun z2 => ?_)
        · have en : Nz (at' ds i) := of_decide_eq_true z2
          refine ⟨_, rfl, acc, q45 _ _ q2, ?_, Same.over (q1.trans q45) hL3, _, upd_same, ?_⟩
          · have h1 := q3.len
            have h2 : ((ds.take i).filter fun d => decide (W ps d = M ∧ Nz d)).length ≤ (ds.take i).length := List.length_filter_le _ _
            rw [List.length_take] at h2
            exact smallLine (by omega)
          · rw [etake, if_pos ⟨ez, en⟩]
            have kl : Keep H8 (upd H8 L3 (.lst (acc ++ [x]))) := Keep.lst (q45 _ _ q2)
            exact (q3.keep ((Keep.of q45).trans kl)).snoc (hq.keep ((Keep.of (q1.trans q45)).trans kl))
        · have en : ¬ Nz (at' ds i) := fun w => z2 (decide_eq_true w)
          refine ⟨q1.trans q45, acc, q45 _ _ q2, ?_⟩
          rw [etake, if_neg (fun w => en w.2), List.append_nil]
          exact q3.keep (Keep.of q45)
      · have ez : ¬ W ps (at' ds i) = M := fun w => z (decide_eq_true (congrArg V.int w))
        refine ⟨q1.trans q4, acc, q4 _ _ q2, ?_⟩
        rw [etake, if_neg (fun w => ez w.1), List.append_nil]
        exact q3.keep (Keep.of q4)
    · obtain ⟨q1, acc, q2, q3⟩ := h
      rw [show ys.length = ds.length from elen, List.take_length] at q3
      refine ⟨_, rfl, _, rfl, L3, acc, _, rfl, SqL.of q2, q3, fun ys2 qs LS hLS htp hperm hpw => ⟨by show 2 ≤ sizeLine; decide, fun R hR => ?_⟩⟩
      have sLS := Same.new (o := .lst ys2) hLS
      have sR := Same.new (o := .tup [.int M, .ref LS]) hR
      have hlw : LW ps M qs := by
        refine lw_of hU hIn.ne hB (fun d hd hw => inb d (fun z => ?_) hw) hMx hMl (asc_of hpw ?_) (fun d => ?_)
        · have := hd.2
          rw [z] at this
          exact lx_irrefl this
        · exact hperm.nodup_iff.mpr (List.Pairwise.filter _ hIn.nd)
        · rw [hperm.mem_iff, List.mem_filter, decide_eq_true_iff]
      refine k R LS _ M ys2 qs hlw ?_ upd_same (sR _ _ upd_same) ((htp.keep (Keep.of sLS)).keep (Keep.of sR))
      exact (((s1.trans t8).trans r1).trans q1).trans (sLS.trans sR)
end
end Lat

/-! Gy3: sorted(set of points), whatever their signs. -/
namespace Lat
open PySem PySem.Spec PyProof.Rows L2 Geo Gx
open Classical in
/-- the pair at a value in the heap -/
noncomputable def pkOf (h : Heap) (v : Value) : Int × Int := if hx : ∃ p : Int × Int, Srt.IsPair h v p.1 p.2 then hx.choose else (0, 0)
theorem pair_uniq {h : Heap} {v : Value} {x y x' y' : Int} (a : Srt.IsPair h v x y) (b : Srt.IsPair h v x' y') : x = x' ∧ y = y' := by
  obtain ⟨p, o, t, u, n, e, ho, hc, hd⟩ := a
  obtain ⟨p', o', t', u', n', e', ho', hc', hd'⟩ := b
  subst e
  injection e' with e'
  subst e'
  rw [ho] at ho'
  injection ho' with ho'
  subst ho'
  rw [hd] at hd'
  injection hd' with hd' _
  have h1 := congrArg Array.toList hd'
  simp only at h1
  injection h1 with e1 h1
  injection h1 with e2 _
  injection e1 with e1 _
  injection e2 with e2 _
  exact ⟨e1, e2⟩
theorem pkOf_eq {h : Heap} {v : Value} {p : Int × Int} (a : Srt.IsPair h v p.1 p.2) : pkOf h v = p := by
  have hx : ∃ p : Int × Int, Srt.IsPair h v p.1 p.2 := ⟨p, a⟩
  unfold pkOf
  rw [dif_pos hx]
  have := pair_uniq hx.choose_spec a
  exact Prod.ext this.1 this.2
section
variable {P : Program} {w : World} {A : Around} {E : Value → Shared → Prop} {s : Shared}
theorem sorted_setP {a : Addr} {L : List (Addr × List Int)} {es : Array (Int × Value)} {ep : Nat} {t : SetTable} {Q : Value → Shared → Prop} (R : SetTR P w s.heap a L es ep t) (hh : A.handled = none)
    (hL : ∀ q ∈ L, ∃ p : Int × Int, Srt.IsPair s.heap (.ref q.1) p.1 p.2)
    (hQ : ∀ s' p (out : List Value) (c : Nat), (∀ b o, s.heap.get? b = some o → s'.heap.get? b = some o) → s'.gens = s.gens → s'.os = s.os → s.heap.objs.size ≤ p →
      s'.heap.get? p = some (seqObj "list" out.toArray c) → out.Perm (L.map fun q => Value.ref q.1) → SrtO.Srtd (fun v u => SrtO.lexB (pkOf s.heap v) (pkOf s.heap u)) out → Q (.ref p) s') :
    wpAny (model P w) A (call (.builtin "sorted") [.ref a]) Q E s := by
  obtain ⟨ob, hob, exs, dat⟩ := R.ob
  have zes := R.size
  have zfew := R.few
  have zfit := R.fits
  refine Calls.call_function_entry kind_sorted plain_sorted entry_sorted (args_sorted1 _) ?_
  unfold Builtin.«sorted»
  refine wpAny_bind (m := checkCount "sorted" 1 1 _) (wpAny_pure ?_)
  have zsc : es.size < scanBound := by unfold scanBound; omega
  refine wpAny_bind (collect_set (A := A.in1) hh ⟨ob, hob, exs.1, dat⟩ zfit zsc R.tab.ris R.led ?_)
  intro s1 vs keep1 size1 gens1 os1 perm1
  have rows1 : es.toList.map (·.2) = L.map fun q => Value.ref q.1 := by
    rw [R.rows]
    unfold rowsOf
    rw [List.map_map]; rfl
  rw [rows1] at perm1
  have zv : vs.length < 64 := by rw [perm1.length_eq, List.length_map]; exact zfew
  have zl : vs.length ≤ sizeLine := by rw [sizeLine_eq]; omega
  have hp1 : ∀ v ∈ vs, Srt.IsPair s.heap v (pkOf s.heap v).1 (pkOf s.heap v).2 := fun v hv => by
    obtain ⟨q, hq, e⟩ := List.mem_map.mp (perm1.mem_iff.mp hv)
    obtain ⟨p, hp⟩ := hL q hq
    rw [← e, pkOf_eq hp]
    exact hp
  refine wpAny_bind (wpAny_newList ?_ zl)
  have at1 : (s1.heap.push (seqObj "list" vs.toArray 0)).get? s1.heap.objs.size = some (seqObj "list" vs.toArray 0) := Heap.get?_push_size _ rfl
  refine wpAny_bind (wpAny_holding (wpAny_call_entry (s := { s1 with heap := s1.heap.push (seqObj "list" vs.toArray 0) }) slot_list_sort ⟨_, at1, rfl⟩ entry_list_sort
    (SrtO.list_sort_ord (SrtO.swo_lex (pkOf s.heap)) at1 zl (fun h2 => ?_) fun out hs hb => ⟨_, rfl, ?_⟩) (args_list_sort _)))
  · refine SrtO.pairs_sortableO (by omega) (fun v hv => (hp1 v hv).keeps fun b o e _ => Heap.get?_push_of_some _ (keep1 b o e)) fun o e => ?_
    have e' : some o = some (seqObj "list" vs.toArray 0) := e.symm.trans at1
    cases e'
    intro c
    exact absurd (Value.type.inj c) (by decide)
  · obtain ⟨c, hc⟩ := sortedHeap_at (vs := vs) (out := out.toArray) at1
    refine wpAny_pure ⟨_, rfl, hQ _ s1.heap.objs.size out c (fun b u e => ?_) gens1 os1 size1 hc (hb.perm.trans perm1) hs⟩
    have q := keep1 b u e
    have hlt := Heap.lt_size q
    show (sortedHeap (s1.heap.push (seqObj "list" vs.toArray 0)) s1.heap.objs.size vs out.toArray).get? b = some u
    rw [sortedHeap_old (Nat.ne_of_lt hlt) (by rw [size_push']; exact Nat.lt_succ_of_lt hlt)]
    exact Heap.get?_push_of_some _ q
end
section
variable {X : Cx}
/-- sorted(set), the set holds points -/
def rSortSP (K : PySem.W.Frag) (P : Program) (w : World) : List V → Hp → VK → Prop := fun vs H Q => ∃ (a : Addr) (L : List (Addr × List Int)), vs = [.ref a] ∧ H a = some (SetTO P w a L) ∧ (∀ p ∈ L, ∃ q : Pt, p.2 = [q.1, q.2] ∧ TP H (.ref p.1) q) ∧
  ∀ ys qs Ln, H Ln = none → TPs H ys qs → qs.Pairwise Lx → (∀ q : Pt, q ∈ qs ↔ ∃ p ∈ L, p.2 = [q.1, q.2]) → qs.length < 64 → Q (.ref Ln) (upd H Ln (.lst ys))
theorem cr_sortSP (hc : X.calm = true) : CallR X (.builtin "sorted") (rSortSP X.K X.prog X.w) := by
  intro pins s σ H vs us Q I r h
  obtain ⟨a, L, rfl, ha, hk, q⟩ := h
  have isP : ∀ p ∈ L, ∀ x : Pt, TP H (.ref p.1) x → Srt.IsPair s.heap (.ref p.1) x.1 x.2 := fun p _ x ⟨t, e, ht⟩ => by
    obtain ⟨_, its, r2, o, ho, hcl, n, hd⟩ := I.hok _ _ ht
    obtain ⟨u1, u2, rfl, ri, rj⟩ := vals2 r2
    obtain ⟨t1, rfl⟩ := ri
    obtain ⟨t2, rfl⟩ := rj
    cases e
    exact ⟨_, o, t1, t2, n, rfl, ho, hcl, hd⟩
  have R0 : SetT0 X.prog X.w s.heap a L := (I.hok a _ ha).1
  obtain ⟨es, ep, t, R⟩ := R0.full fun p hp => by
    obtain ⟨x, e, t, e2, ht⟩ := hk p hp
    rw [e]
    cases e2
    exact I.isT (k := [x.1, x.2]) (SqT.of ht)
  rw [Vals.ref1 r]
  refine sorted_setP R (I.ok.hd hc) (fun p hp => ?_) fun s' d out c kp g o hsz hd hperm hsrt => ?_
  · obtain ⟨x, _, hx⟩ := hk p hp
    exact ⟨x, isP p hp x hx⟩
  · have h3 : ∀ u ∈ out, ∃ a, u = Value.ref a := fun u hu => by
      obtain ⟨p, _, e⟩ := List.mem_map.mp (hperm.mem_iff.mp hu)
      exact ⟨p.1, e.symm⟩
    have hn : H d = none := I.hok.fresh hsz
    have hl : out.length = L.length := by rw [hperm.length_eq, List.length_map]
    have hv : Vals (out.map backV) out := vals_back h3
    have J : Inv X pins σ (upd H d (.lst (out.map backV))) { s with heap := s'.heap, gens := s'.gens, drawn := s'.drawn, toks := s'.toks } :=
      I.call (ch := []) (Un.laid kp hsz hn) (I.hok.laid kp hsz ⟨by rw [List.length_map, hl, sizeLine_eq]; have := R.few; omega, out, c, hv, hd⟩) (by rw [g]; exact I.bare) (fun _ z => nomatch z)
    have e : s' = { s with heap := s'.heap, gens := s'.gens, drawn := s'.drawn, toks := s'.toks } := by
      cases s'
      cases s
      cases o
      rfl
    rw [e]
    refine ⟨.ref d, _, J, rfl, ?_⟩
    have hpt : ∀ p ∈ L, TP H (.ref p.1) (ptOf H (.ref p.1)) ∧ p.2 = [(ptOf H (.ref p.1)).1, (ptOf H (.ref p.1)).2] := fun p hp => by
      obtain ⟨x, e, hx⟩ := hk p hp
      rw [ptOf_eq hx]
      exact ⟨hx, e⟩
    have pm : (out.map backV).Perm (L.map fun p => V.ref p.1) := by
      have h := hperm.map backV
      rw [List.map_map] at h
      exact h
    have pq : ((out.map backV).map (ptOf H)).Perm (L.map fun p => ptOf H (.ref p.1)) := by
      have h := pm.map (ptOf H)
      rw [List.map_map (l := L)] at h
      exact h
    have nd : ((out.map backV).map (ptOf H)).Nodup := by
      refine pq.nodup_iff.mpr (List.pairwise_map.mpr (List.Pairwise.imp_of_mem (fun {x y} hx hy hne e => hne ?_) (List.pairwise_map.mp R.nd)))
      rw [(hpt x hx).2, (hpt y hy).2, e]
    refine q (out.map backV) ((out.map backV).map (ptOf H)) d hn (tps_map fun v hv => ?_) (asc_of ?_ nd) (fun x => ?_) ?_
    · obtain ⟨p, hp, e⟩ := List.mem_map.mp (pm.mem_iff.mp hv)
      rw [← e]
      exact (hpt p hp).1
    · rw [List.map_map]
      refine List.pairwise_map.mpr (List.Pairwise.imp_of_mem (fun {x y} hx hy h => ?_) hsrt)
      obtain ⟨px, hpx, ex⟩ := List.mem_map.mp (hperm.mem_iff.mp hx)
      obtain ⟨py, hpy, ey⟩ := List.mem_map.mp (hperm.mem_iff.mp hy)
      have kx := pkOf_eq (isP px hpx _ (hpt px hpx).1)
      have ky := pkOf_eq (isP py hpy _ (hpt py hpy).1)
      rw [← ex, ← ey] at h ⊢
      have h : SrtO.lexB (pkOf s.heap (Value.ref py.1)) (pkOf s.heap (Value.ref px.1)) = false := h
      rw [kx, ky] at h
      exact SrtO.lexB_no.mp h
    · rw [pq.mem_iff, List.mem_map]
      constructor
      · rintro ⟨p, hp, rfl⟩
        exact ⟨p, hp, (hpt p hp).2⟩
      · rintro ⟨p, hp, e⟩
        refine ⟨p, hp, ?_⟩
        have e2 := (hpt p hp).2
        rw [e] at e2
        injection e2 with e3 e2
        injection e2 with e4 _
        exact (Prod.ext e3 e4).symm
    · rw [List.length_map, List.length_map, hl]
      exact R.few
end
end Lat

/-! D17: the law's draws and turns. -/
namespace Lat
open PySem PySem.Spec PyProof.Rows L2 Geo Gx
abbrev sDraws : Stmt := top 46
abbrev sDraw : Stmt := top 47
abbrev sLTurn : Stmt := top 48
theorem fmod_bd (a : Int) {n : Int} (h : 0 < n) : 0 ≤ a.fmod n ∧ a.fmod n < n := by
  rw [Int.fmod_eq_emod_of_nonneg _ (by omega)]
  exact ⟨Int.emod_nonneg _ (by omega), Int.emod_lt_of_pos _ h⟩
/-- the state of the draws -/
def Drw (H : Hp) (d : Addr) : Prop := ∃ x s : Int, H d = some (.lst [.int x, .int s]) ∧ 0 ≤ s ∧ s < 2147483647
theorem ints_dp {K : PySem.W.Frag} {H : Hp} : ∀ ns : List Int, DpAll K H (ns.map V.int) (ns.map PyData.int)
  | [] => .nil
  | n :: ns => .cons (.int n) (ints_dp ns)
theorem ints_lay : ∀ ns : List Int, PyData.canLayAll0 (ns.map PyData.int) = true
  | [] => by simp [PyData.canLayAll0]
  | n :: ns => by
    rw [List.map_cons]
    have := ints_lay ns
    simp only [PyData.canLayAll0, this, Bool.and_true]
    rfl
theorem ints_depth : ∀ ns : List Int, PyData.depthAll (ns.map PyData.int) = 0
  | [] => by decide
  | n :: ns => by
    rw [List.map_cons]
    simp only [PyData.depthAll, PyData.depth, ints_depth ns]
    rfl
theorem ints_shaped (ns : List Int) : SeqAt.shaped (.list (ns.map PyData.int)) = true := by
  unfold SeqAt.shaped
  rw [Bool.and_eq_true]
  refine ⟨ints_lay ns, decide_eq_true ?_⟩
  show PyData.depthAll (ns.map PyData.int) + 1 ≤ 64
  rw [ints_depth]
  decide
section
variable {P : Program} {w : World} {K : PySem.W.Frag} {mg : Str → Option Value} {base : Heap}
theorem scDraws : FnScope ["_law_script", "_law_k", "_law_cell", "_law_seed"] ["_law_script", "_law_k"] (defScope sDraws) := ⟨rfl, rfl, rfl, by decide +kernel, rfl, by decide +kernel, by decide +kernel⟩
def spDraws (K : PySem.W.Frag) : Sp := fun vs H Q _ => ∃ (a : Addr) (ns : List Int) (i : Nat), vs = [.ref a, .int i] ∧ SqL K H a (ns.map V.int) ∧ i ≤ 100 ∧ ∀ D H', Same H H' → H D = none → Drw H' D → Q (.ref D) H'
theorem Same.seq {K : PySem.W.Frag} {H H' : Hp} {a : Addr} {xs : List V} (s : Same H H') (h : SqL K H a xs) : SqL K H' a xs := by
  rcases h with h | h
  · refine .inl ?_
    rcases h with h | h
    · exact .inl (s _ _ h)
    · obtain ⟨o, h⟩ := h
      exact .inr ⟨o, s _ _ h⟩
  · exact .inr h
theorem ok_draws {f : Addr} {fd : FuncData} (F : Fun K "_law_draws" "_law_draws" sDraws f fd) (m1 : mg "len" = none) (m2 : mg "int" = none) : FnOk P w K mg base CX0 1 f fd ["_law_script", "_law_k"] (spDraws K) := by
  refine F.ok scDraws (fun vs H Q E h => ?_) (fun cdv A outer s H vs Q E hr h => ?_)
  · obtain ⟨_, _, _, rfl, _⟩ := h; rfl
  · obtain ⟨a, ns, i, rfl, hs, hi, k⟩ := h
    refine ⟨_, pss_cons (ps_set (i := 2) scDraws.nd rfl (Or.inl rfl) pe_int)
      (pss_cons (ps_if (pt_cmpR (op_neD hr.units) (pv 0) (pe_lst pa_nil) (nomark _)) (pss_one (ps_set (i := 2) scDraws.nd rfl (Or.inl rfl) (pe_ix ix_list (pv 0) (pe_op op_modN (pv 1) (pe_callB call_len_seq (by rfl) m1 PySem.boot_len (pa_cons (pv 0) pa_nil))) (fun _ _ => rfl)))) pss_nil)
      (pss_cons (ps_if (pt_cmpR op_ge (pv 1) (pe_callB call_len_seq (by rfl) m1 PySem.boot_len (pa_cons (pv 0) pa_nil)) (nomark _)) (pss_one (ps_set (i := 2) scDraws.nd rfl (Or.inl rfl) (pe_op op_modN (pv 2) pe_int))) pss_nil)
      (pss_cons (ps_set (i := 3) scDraws.nd rfl (Or.inl rfl) (pe_op op_modN (pe_op op_mul (pe_op op_add (pe_op op_add (pe_op op_modN (pv 2) pe_int) (pe_op op_mul pe_int (pv 1))) pe_int) pe_int) pe_int))
      (pss_one (ps_ret (pe_lst (pa_cons (pe_op op_mul (pv 2) (pe_callTy call_int1 (by rfl) m2 (by decide +kernel) (pa_cons (pe_cmpR op_ge (pv 2) (pe_op op_pow pe_int pe_int) (nomark _)) pa_nil))) (pa_cons (pv 3) pa_nil)))))))), ?_⟩
    refine ⟨_, rfl, Nat.zero_le _, fun e he => ?_⟩
    have s0 : Same H (upd H e (.lst [])) := Same.new he
    have hs0 := Same.seq s0 hs
    refine ⟨.list (ns.map PyData.int), .list [], .lst hs0 (ints_dp ns), .lst (SqL.of upd_same) .nil, ints_shaped ns, rfl, _, rfl, ?_⟩
    refine ite2 (fun wz => ?_) (fun wz => ?_)
    · have hn : 0 < ns.length := by
        rcases ns with _ | ⟨n, ns⟩
        · exact absurd wz (by decide)
        · exact Nat.succ_pos _
      have hm : i % ns.length < ns.length := Nat.mod_lt _ hn
      have hat : atI (ns.map V.int) ((i : Int).fmod (((ns.map V.int).length : Nat) : Int)) = some (V.int (ns[i % ns.length]'hm)) := by
        rw [List.length_map, Int.fmod_eq_emod_of_nonneg _ (by omega)]
        refine atI_nat (j := i % ns.length) ?_
        rw [List.getElem?_map, List.getElem?_eq_getElem hm]
        rfl
      refine ⟨_, rfl, _, rfl, _, rfl, a, _, rfl, .inl hs0, _, _, rfl, rfl, by rw [List.length_map]; omega, a, _, _, _, rfl, rfl, hs0, hat, ?_⟩
      refine ⟨_, rfl, _, rfl, a, _, rfl, .inl hs0, _, _, rfl, rfl, _, rfl, ?_⟩
      refine ite2 (fun wz => ⟨_, rfl, _, _, rfl, rfl, (by decide : (1000003 : Int) ≠ 0), ?_⟩) (fun wz => ?_)
      all_goals
        refine ⟨_, rfl, _, _, rfl, rfl, (by decide : (2147483629 : Int) ≠ 0), _, rfl, _, _, rfl, rfl, .inl (by decide), _, _, rfl, rfl, _, _, rfl, rfl, _, _, rfl, rfl, .inr (by decide), _, _, rfl, rfl, (by decide : (2147483647 : Int) ≠ 0), ?_⟩
        refine ⟨_, rfl, _, rfl, _, _, rfl, rfl, ⟨by decide, by decide, by decide⟩, _, _, rfl, rfl, .inr ⟨_, rfl, _, _, rfl, rfl, .inr ?_, _, rfl, by show 2 ≤ sizeLine; decide, fun D hD => ?_⟩⟩
        · split <;> decide
        · exact k D _ (s0.trans (Same.new hD)) (s0.free hD) ⟨_, _, upd_same, fmod_bd _ (by decide)⟩
    · refine ⟨_, rfl, _, rfl, a, _, rfl, .inl hs0, _, _, rfl, rfl, _, rfl, ?_⟩
      refine ite2 (fun wz => ⟨_, rfl, _, _, rfl, rfl, (by decide : (1000003 : Int) ≠ 0), ?_⟩) (fun wz => ?_)
      all_goals
        refine ⟨_, rfl, _, _, rfl, rfl, (by decide : (2147483629 : Int) ≠ 0), _, rfl, _, _, rfl, rfl, .inl (by decide), _, _, rfl, rfl, _, _, rfl, rfl, _, _, rfl, rfl, .inr (by decide), _, _, rfl, rfl, (by decide : (2147483647 : Int) ≠ 0), ?_⟩
        refine ⟨_, rfl, _, rfl, _, _, rfl, rfl, ⟨by decide, by decide, by decide⟩, _, _, rfl, rfl, .inr ⟨_, rfl, _, _, rfl, rfl, .inr ?_, _, rfl, by show 2 ≤ sizeLine; decide, fun D hD => ?_⟩⟩
        · split <;> decide
        · exact k D _ (s0.trans (Same.new hD)) (s0.free hD) ⟨_, _, upd_same, fmod_bd _ (by decide)⟩
theorem scDraw : FnScope ["_law_draws_here", "_law_upto", "_law_digit"] ["_law_draws_here", "_law_upto"] (defScope sDraw) := ⟨rfl, rfl, rfl, by decide +kernel, rfl, by decide +kernel, by decide +kernel⟩
def spDraw : Sp := fun vs H Q _ => ∃ (d : Addr) (n : Nat), vs = [.ref d, .int n] ∧ Drw H d ∧ 0 < n ∧ n ≤ 100 ∧ ∀ (r : Nat) H', r < n → But d H H' → Drw H' d → Q (.int r) H'
theorem ok_draw {f : Addr} {fd : FuncData} (F : Fun K "_law_draw" "_law_draw" sDraw f fd) : FnOk P w K mg base CX0 1 f fd ["_law_draws_here", "_law_upto"] spDraw := by
  refine F.ok scDraw (fun vs H Q E h => ?_) (fun cdv A outer s H vs Q E hr h => ?_)
  · obtain ⟨_, _, rfl, _⟩ := h; rfl
  · obtain ⟨d, n, rfl, ⟨x, sd, hd, b1, b2⟩, hn, hn2, k⟩ := h
    refine ⟨_, pss_cons (ps_if (pt_cmpR op_gt (pe_ix ix_list (pv 0) pe_int (fun _ _ => rfl)) pe_int (nomark _))
        (pss_cons (ps_set (i := 2) scDraw.nd rfl (Or.inl rfl) (pe_op op_modN (pe_ix ix_list (pv 0) pe_int (fun _ _ => rfl)) (pv 1))) (pss_cons (ps_asg (pe_op op_fdivN (pe_ix ix_list (pv 0) pe_int (fun _ _ => rfl)) (pv 1)) (pg_sub (pv 0) pe_int set_list)) (pss_one (ps_ret (pv 2))))) pss_nil)
      (pss_cons (ps_asg (pe_op op_modN (pe_op op_add (pe_op op_mul (pe_ix ix_list (pv 0) pe_int (fun _ _ => rfl)) pe_int) pe_int) pe_int) (pg_sub (pv 0) pe_int set_list))
      (pss_one (ps_ret (pe_op op_modN (pe_op op_fdivN (pe_op op_modN (pe_op op_mul (pe_ix ix_list (pv 0) pe_int (fun _ _ => rfl)) (pe_ix ix_list (pv 0) pe_int (fun _ _ => rfl))) pe_int) pe_int) (pv 1))))), ?_⟩
    have low : ∀ a : Int, ∃ r : Nat, a.fmod (n : Int) = (r : Int) ∧ r < n := fun a => by
      obtain ⟨h1, h2⟩ := fmod_bd a (show (0 : Int) < n by omega)
      exact ⟨(a.fmod n).toNat, by omega, by omega⟩
    refine ⟨_, rfl, d, _, 0, _, rfl, rfl, SqL.of hd, atI_nat (j := 0) rfl, _, _, rfl, rfl, _, rfl, ?_⟩
    refine ite2 (fun wz => ?_) (fun wz => ?_)
    · obtain ⟨r, er, hr1⟩ := low x
      refine ⟨_, rfl, d, _, 0, _, rfl, rfl, SqL.of hd, atI_nat (j := 0) rfl, _, rfl, _, _, rfl, rfl, by omega, ?_⟩
      refine ⟨_, rfl, d, _, 0, _, rfl, rfl, SqL.of hd, atI_nat (j := 0) rfl, _, rfl, _, _, rfl, rfl, ⟨by omega, by omega⟩, ?_⟩
      refine ⟨_, rfl, d, _, _, 0, rfl, rfl, hd, rfl, ?_⟩
      refine ⟨_, rfl, ?_⟩
      show Q (.int (x.fmod n)) _
      rw [er]
      exact k r _ hr1 But.put ⟨_, sd, upd_same, b1, b2⟩
    · refine ⟨_, rfl, d, _, 1, _, rfl, rfl, SqL.of hd, atI_nat (j := 1) rfl, _, _, rfl, rfl, .inl (far2 (by omega) (by omega)), _, _, rfl, rfl, _, _, rfl, rfl, (by decide : (2147483647 : Int) ≠ 0), ?_⟩
      refine ⟨_, rfl, d, _, _, 1, rfl, rfl, hd, rfl, ?_⟩
      obtain ⟨c1, c2⟩ := fmod_bd (sd * 48271 + 11) (show (0 : Int) < 2147483647 by decide)
      refine ⟨_, rfl, d, _, 1, _, rfl, rfl, SqL.of upd_same, atI_nat (j := 1) rfl, _, rfl, d, _, 1, _, rfl, rfl, SqL.of upd_same, atI_nat (j := 1) rfl, _, _, rfl, rfl, .inl (far2 (by omega) (by omega)), _, _, rfl, rfl, (by decide : (2147483629 : Int) ≠ 0), _, _, rfl, rfl, ⟨(by decide : (64 : Int) ≠ 0), (by decide : (64 : Int).natAbs < 1073741824)⟩, _, rfl, _, _, rfl, rfl, by omega, ?_⟩
      obtain ⟨r, er, hr1⟩ := low ((((sd * 48271 + 11).fmod 2147483647 * (sd * 48271 + 11).fmod 2147483647).fmod 2147483629).fdiv 64)
      show Q (.int _) _
      rw [er]
      exact k r _ hr1 But.put ⟨x, _, upd_same, c1, c2⟩
theorem scLTurn : FnScope ["_law_first", "_law_second", "_law_third", "_law_x", "_law_y"] ["_law_first", "_law_second", "_law_third"] (defScope sLTurn) := ⟨rfl, rfl, rfl, by decide +kernel, rfl, by decide +kernel, by decide +kernel⟩
def spLTurn : Sp := fun vs H Q _ => ∃ v u x p q r, vs = [v, u, x] ∧ TP H v p ∧ TP H u q ∧ TP H x r ∧ Bd 100 p ∧ Bd 100 q ∧ Q (.int (turn p q r)) H
theorem ok_lTurn {f : Addr} {fd : FuncData} (F : Fun K "_law_turn" "_law_turn" sLTurn f fd) : FnOk P w K mg base CX0 1 f fd ["_law_first", "_law_second", "_law_third"] spLTurn := by
  refine F.ok scLTurn (fun vs H Q E h => ?_) (fun cdv A outer s H vs Q E hr h => ?_)
  · obtain ⟨_, _, _, _, _, _, rfl, _⟩ := h; rfl
  · obtain ⟨v, u, x, p, q, r, rfl, ⟨t1, rfl, h1⟩, ⟨t2, rfl, h2⟩, ⟨t3, rfl, h3⟩, ⟨p1, p2, p3, p4⟩, ⟨q1, q2, q3, q4⟩, k⟩ := h
    refine ⟨_, pss_cons (ps_par (i := 3) (j := 4) (by rfl) scLTurn.nd rfl rfl (by decide) rfl rfl (pa_cons (pe_op op_sub (pe_ix ix_tup (pv 1) pe_int (fun _ _ => rfl)) (pe_ix ix_tup (pv 0) pe_int (fun _ _ => rfl))) (pa_cons (pe_op op_sub (pe_ix ix_tup (pv 1) pe_int (fun _ _ => rfl)) (pe_ix ix_tup (pv 0) pe_int (fun _ _ => rfl))) pa_nil)) (by rfl))
      (pss_one (ps_ret (pe_op op_sub (pe_op op_mul (pv 3) (pe_op op_sub (pe_ix ix_tup (pv 2) pe_int (fun _ _ => rfl)) (pe_ix ix_tup (pv 1) pe_int (fun _ _ => rfl)))) (pe_op op_mul (pv 4) (pe_op op_sub (pe_ix ix_tup (pv 2) pe_int (fun _ _ => rfl)) (pe_ix ix_tup (pv 1) pe_int (fun _ _ => rfl))))))), ?_⟩
    refine ⟨_, rfl, t2, _, 0, _, rfl, rfl, SqT.of h2, atI_nat (j := 0) rfl, _, rfl, t1, _, 0, _, rfl, rfl, SqT.of h1, atI_nat (j := 0) rfl, _, _, rfl, rfl, ?_⟩
    refine ⟨_, rfl, t2, _, 1, _, rfl, rfl, SqT.of h2, atI_nat (j := 1) rfl, _, rfl, t1, _, 1, _, rfl, rfl, SqT.of h1, atI_nat (j := 1) rfl, _, _, rfl, rfl, _, _, rfl, ?_⟩
    refine ⟨_, rfl, _, rfl, t3, _, 1, _, rfl, rfl, SqT.of h3, atI_nat (j := 1) rfl, _, rfl, t2, _, 1, _, rfl, rfl, SqT.of h2, atI_nat (j := 1) rfl, _, _, rfl, rfl, _, _, rfl, rfl, .inl (far (by omega) (by omega)), ?_⟩
    exact ⟨_, rfl, _, rfl, t3, _, 0, _, rfl, rfl, SqT.of h3, atI_nat (j := 0) rfl, _, rfl, t2, _, 0, _, rfl, rfl, SqT.of h2, atI_nat (j := 0) rfl, _, _, rfl, rfl, _, _, rfl, rfl, .inl (far (by omega) (by omega)), _, _, rfl, rfl, k⟩
end
end Lat

/-! D18: the law's hull. -/
namespace Lat
open PySem PySem.Spec PyProof.Rows L2 Geo Gx
abbrev sHull : Stmt := top 49
theorem tps_keys {H : Hp} : ∀ {xs ps}, TPs H xs ps → ∃ ks : List (Addr × List Int), xs = ks.map (fun p => V.ref p.1) ∧ ks.map (·.2) = ps.map (fun p => [p.1, p.2]) ∧ ∀ p ∈ ks, ∃ q : Pt, p.2 = [q.1, q.2] ∧ TP H (.ref p.1) q
  | _, _, .nil => ⟨[], rfl, rfl, fun p h => nomatch h⟩
  | _, _, .cons (p := p) ⟨t, e, h⟩ b => by
    obtain ⟨ks, h1, h2, h3⟩ := tps_keys b
    refine ⟨(t, [p.1, p.2]) :: ks, by rw [List.map_cons, ← h1, e], by rw [List.map_cons, List.map_cons, h2], fun q hq => ?_⟩
    rcases List.mem_cons.mp hq with rfl | hq
    · exact ⟨p, rfl, t, rfl, h⟩
    · exact h3 q hq
theorem atI_neg {α : Type} {xs : List α} {k : Nat} {v : α} (hk : 0 < k) (hl : k ≤ xs.length) (e : xs[xs.length - k]? = some v) : atI xs (-(k : Int)) = some v := by
  unfold atI ixN
  rw [if_neg (by omega), if_pos (by omega)]
  have e1 : (-(k : Int) + (xs.length : Int)).toNat = xs.length - k := by omega
  rw [e1]
  exact e
theorem cutV_init (xs : List V) : cutV xs none (some (-1)) = xs.dropLast := by
  unfold cutV
  rw [HT.sIx_none]
  have e : HT.sIx xs.length xs.length (some (-1)) = xs.length - 1 := by
    show (if (-1 : Int) < 0 then ((-1 : Int) + (xs.length : Int)).toNat else min (-1 : Int).toNat xs.length) = xs.length - 1
    rw [if_pos (by decide)]
    omega
  rw [e, List.dropLast_eq_take]
  show List.take (xs.length - 1 - 0) (List.drop 0 xs) = List.take (xs.length - 1) xs
  simp
theorem at_rev_last {st : List Pt} {b : Pt} : at' (b :: st).reverse ((b :: st).length - 1) = b := by
  rw [List.reverse_cons]
  unfold at'
  simp [List.getD]
theorem at_rev_last2 {st : List Pt} {a b : Pt} : at' (b :: a :: st).reverse ((b :: a :: st).length - 2) = a := by
  rw [List.reverse_cons, List.reverse_cons]
  unfold at'
  simp [List.getD, List.getElem?_append]
theorem popL_len (st : List Pt) (c : Pt) : (popL st c).length ≤ st.length := (popL_sub st c).length_le
def hacc (o : List Pt) (i : Nat) : List Pt := ([o, o.reverse].take i).flatMap fun w => (half w).reverse.dropLast
theorem hacc2 (o : List Pt) : hacc o 2 = chain o := by unfold hacc chain; simp
theorem dl_len {α : Type} (l : List α) : l.dropLast.length ≤ l.length := by rw [List.length_dropLast]; omega
section
variable {P : Program} {w : World} {K : PySem.W.Frag} {mg : Str → Option Value} {base : Heap}
theorem scHull : FnScope ["_law_points", "_law_ordered", "_law_chain", "_law_way", "_law_side", "_law_point"] ["_law_points"] (defScope sHull) := ⟨rfl, rfl, rfl, by decide +kernel, rfl, by decide +kernel, by decide +kernel⟩
def spHull : Sp := fun vs H Q _ => ∃ a xs ps, vs = [.ref a] ∧ H a = some (.lst xs) ∧ TPs H xs ps ∧ ps.length < 64 ∧ (∀ p ∈ ps, Bd 100 p) ∧ ∀ D H' ys o, Same H H' → H D = none → H' D = some (.lst ys) → o.Pairwise Lx → (∀ p, p ∈ o ↔ p ∈ ps) → TPs H' ys (chain o) → Q (.ref D) H'
theorem ok_hull {f : Addr} {fd : FuncData} (F : Fun K "_law_hull" "_law_hull" sHull f fd) (C : Cal P w K mg base 1 "_law_turn" ["_law_first", "_law_second", "_law_third"] spLTurn) (m1 : mg "sorted" = none) (m2 : mg "set" = none) (m3 : mg "len" = none) : FnOk P w K mg base CX0 2 f fd ["_law_points"] spHull := by
  refine F.ok scHull (fun vs H Q E h => ?_) (fun cdv A outer s H vs Q E hr h => ?_)
  · obtain ⟨_, _, _, rfl, _⟩ := h; rfl
  · obtain ⟨a, xs, ps, rfl, ha, hp, h64, hbd, k⟩ := h
    refine ⟨_, pss_cons (ps_set (i := 1) scHull.nd rfl (Or.inl rfl) (pe_callB (cr_sortSP rfl) (by rfl) m1 (by decide +kernel) (pa_cons (pe_callTy (cr_setOfT rfl hr.units) (by rfl) m2 (by decide +kernel) (pa_cons (pv 0) pa_nil)) pa_nil)))
      (pss_cons (ps_set (i := 2) scHull.nd rfl (Or.inl rfl) (pe_lst pa_nil))
      (pss_cons (ps_for PassesOwn.never rfl (pi_list (pe_lst (pa_cons (pv 1) (pa_cons (pe_revL (pv 1)) pa_nil)))) (pg_name (i := 3) scHull.nd rfl (Or.inl rfl))
        (pss_cons (ps_set (i := 4) scHull.nd rfl (Or.inl rfl) (pe_lst pa_nil))
        (pss_cons (ps_for PassesOwn.never rfl (pi_list (pv 3)) (pg_name (i := 5) scHull.nd rfl (Or.inl rfl))
          (pss_cons (ps_while PassesOwn.never (PW.pt (pw_and (pt_cmpR op_gt (pe_callB call_len_seq (by rfl) m3 PySem.boot_len (pa_cons (pv 4) pa_nil)) pe_int (nomark _))
              (pw_and1 (pt_cmpR op_le (pe_cal C hr rfl (pa_cons (pe_ix ix_list (pv 4) (pe_un un_neg pe_int) (fun _ _ => rfl)) (pa_cons (pe_ix ix_list (pv 4) (pe_un un_neg pe_int) (fun _ _ => rfl)) (pa_cons (pv 5) pa_nil)))) pe_int (nomark _)))))
            (pss_one (ps_expr (pe_bm0 PySem.F.plainAttrs_list PySem.F.slot_list_pop PySem.F.type_list_pop mt_pop (pv 4)))))
          (pss_one (ps_expr (pe_bm PySem.F.plainAttrs_list PySem.F.slot_list_append PySem.F.type_list_append mt_append (pv 4) (pa_cons (pv 5) pa_nil))))))
        (pss_one (ps_set (i := 2) scHull.nd rfl (Or.inl rfl) (pe_op op_cat (pv 2) (pe_slice sl_list (pv 4) po_none (po_some (pe_un un_neg pe_int)))))))))
      (pss_one (ps_ret (pv 2))))), ?_⟩
    obtain ⟨ks, ek, ek2, hks⟩ := tps_keys hp
    have hkl : ks.length < 64 := by
      have := congrArg List.length ek2
      rw [List.length_map, List.length_map] at this
      omega
    refine ⟨_, rfl, a, ks, rfl, SqL.of (by rw [← ek]; exact ha), fun p hp => ?_, hkl, fun S L hS hL1 hL2 => ?_⟩
    · obtain ⟨q, e, t, e2, h⟩ := hks p hp
      cases e2
      rw [e]
      exact SqT.of h
    have sS : Same H (upd H S (SetTO P w S L)) := Same.new hS
    refine ⟨S, L, rfl, upd_same, fun p hp => ?_, fun ys o O hO hys hasc hmem hlt => ?_⟩
    · obtain ⟨q, e, h⟩ := hks p (hL1 p hp)
      exact ⟨q, e, h.keep (Keep.of sS)⟩
    generalize SetTO _ _ S L = so at hO hys ⊢
    have sS : Same H (upd H S so) := Same.new hS
    have hmem' : ∀ p, p ∈ o ↔ p ∈ ps := fun p => by
      have hmk : ∀ q : Pt, q ∈ ps ↔ [q.1, q.2] ∈ ks.map (·.2) := fun q => by
        rw [ek2, List.mem_map]
        constructor
        · intro h; exact ⟨q, h, rfl⟩
        · rintro ⟨r, h, e⟩
          injection e with e1 e
          injection e with e2 _
          rw [← (Prod.ext e1 e2 : r = q)]
          exact h
      rw [hmem p, hmk p]
      constructor
      · rintro ⟨q, hq, e⟩
        exact List.mem_map.mpr ⟨q, hL1 q hq, e⟩
      · intro h
        obtain ⟨r, hr, e⟩ := List.mem_map.mp h
        obtain ⟨q, hq, e2⟩ := List.mem_map.mp (hL2 r hr)
        exact ⟨q, hq, by rw [← e]; exact e2⟩
    have sO := sS.trans (Same.new (o := .lst ys) hO)
    have hysO : TPs (upd (upd H S (so)) O (.lst ys)) ys o := hys.keep (Keep.new hO)
    have eyo := hys.len
    refine ⟨Nat.zero_le _, fun Ch0 hCh0 => ?_⟩
    have sC := sO.trans (Same.new (o := .lst []) hCh0)
    have nOC : O ≠ Ch0 := ne_of_none upd_same hCh0
    have hO2 : (upd (upd (upd H S (so)) O (.lst ys)) Ch0 (.lst [])) O = some (.lst ys) := by rw [upd_ne nOC, upd_same]
    refine ⟨_, rfl, _, rfl, O, ys, rfl, SqL.of hO2, fun R hR => ⟨by show 2 ≤ sizeLine; decide, fun Wl hWl => ?_⟩⟩
    have sR : Same _ (upd (upd (upd (upd H S (so)) O (.lst ys)) Ch0 (.lst [])) R (.lst ys.reverse)) := Same.new hR
    have sW : Same _ (upd (upd (upd (upd (upd H S (so)) O (.lst ys)) Ch0 (.lst [])) R (.lst ys.reverse)) Wl (.lst [.ref O, .ref R])) := Same.new hWl
    have s1 : Same H (upd (upd (upd (upd (upd H S (so)) O (.lst ys)) Ch0 (.lst [])) R (.lst ys.reverse)) Wl (.lst [.ref O, .ref R])) := (sC.trans sR).trans sW
    have hOW := sW _ _ (sR _ _ hO2)
    have hRW := sW _ _ (upd_same (H := upd (upd (upd H S (so)) O (.lst ys)) Ch0 (.lst [])) (a := R) (o := .lst ys.reverse))
    have hCW := sW _ _ (sR _ _ (upd_same (H := upd (upd H S (so)) O (.lst ys)) (a := Ch0) (o := .lst [])))
    have hWW := upd_same (H := upd (upd (upd (upd H S (so)) O (.lst ys)) Ch0 (.lst [])) R (.lst ys.reverse)) (a := Wl) (o := .lst [.ref O, .ref R])
    have hpO := hysO.keep (Keep.of ((Same.new (o := .lst []) hCh0).trans (sR.trans sW)))
    have hCf : H Ch0 = none := sO.free hCh0
    generalize upd (upd (upd (upd (upd H S (so)) O (.lst ys)) Ch0 (.lst [])) R (.lst ys.reverse)) Wl (.lst [.ref O, .ref R]) = H1 at *
    clear sO sC sR sW sS hO2 hysO hys hO hCh0 hR hWl nOC hS
    refine ⟨Wl, rfl, ⟨_, SqL.of hWW⟩, for_list (xs := [.ref O, .ref R]) (fun i σ H' => Same H1 H' ∧ ∃ Ch cv a3 a4 a5, σ = [some (.ref a), some (.ref O), some (.ref Ch), a3, a4, a5] ∧ H Ch = none ∧ H' Ch = some (.lst cv) ∧ TPs H' cv (hacc o i) ∧ cv.length ≤ 64 * i)
      ⟨Same.refl _, Ch0, [], _, _, _, rfl, hCf, hCW, .nil, Nat.le_refl _⟩ (fun i σ H' _ h => SqL.of (h.1 _ _ hWW)) ?_ (fun σ H' h => ?_)⟩
    · rintro i x σ H' hx ⟨s2, Ch, cv, a3, a4, a5, rfl, hCh, hcv, htc, hcl⟩
      obtain ⟨Al, wl, wp, rfl, hwl, hwp, ewp, hi2⟩ : ∃ Al wl wp, x = .ref Al ∧ H1 Al = some (.lst wl) ∧ TPs H1 wl wp ∧ hacc o (i + 1) = hacc o i ++ (half wp).reverse.dropLast ∧ (wp = o ∨ wp = o.reverse) := by
        match i, hx with
        | 0, hx => exact ⟨O, ys, o, (Option.some.inj hx).symm, hOW, hpO, by unfold hacc; simp, .inl rfl⟩
        | 1, hx => exact ⟨R, ys.reverse, o.reverse, (Option.some.inj hx).symm, hRW, hpO.rev, by unfold hacc; simp, .inr rfl⟩
      have hwb : ∀ p ∈ wp, Bd 100 p := fun p hp => by
        rcases hi2 with z | z
        · rw [z] at hp; exact hbd p ((hmem' p).mp hp)
        · rw [z] at hp; exact hbd p ((hmem' p).mp (List.mem_reverse.mp hp))
      have hwlen : wl.length < 64 := by
        rw [hwp.len]
        rcases hi2 with z | z
        · rw [z]; exact hlt
        · rw [z, List.length_reverse]; exact hlt
      refine ⟨Nat.zero_le _, fun Sd hSd => ?_⟩
      have sN : Same H' (upd H' Sd (.lst [])) := Same.new hSd
      refine ⟨_, rfl, Al, rfl, ⟨_, SqL.of (sN _ _ (s2 _ _ hwl))⟩, for_list (xs := wl) (fun j σ H2 => Same H' H2 ∧ ∃ sv st a5, σ = [some (.ref a), some (.ref O), some (.ref Ch), some (.ref Al), some (.ref Sd), a5] ∧ H2 Sd = some (.lst sv) ∧ TPs H2 sv st.reverse ∧ st = half (wp.take j) ∧ (∀ p ∈ st, Bd 100 p) ∧ st.length ≤ j)
        ⟨sN, [], [], _, rfl, upd_same, .nil, rfl, (fun p h => nomatch h), Nat.le_refl _⟩ (fun j σ H2 _ h => SqL.of (h.1 _ _ (s2 _ _ hwl))) ?_ (fun σ H2 h => ?_)⟩
      · rintro j y σ H2 hy ⟨s3, sv, st, a5, rfl, hsv, hst, est, hsb, hsl⟩
        obtain ⟨hj, hyq⟩ := hwp.at hy
        have hyb : Bd 100 (at' wp j) := hwb _ (at_mem hj)
        have hjl : j < wl.length := (List.getElem?_eq_some_iff.mp hy).1
        refine ⟨fun m σ H3 => ∃ sv' st', σ = [some (.ref a), some (.ref O), some (.ref Ch), some (.ref Al), some (.ref Sd), some y] ∧ Same H' H3 ∧ H3 Sd = some (.lst sv') ∧ TPs H3 sv' st'.reverse ∧ popL st' (at' wp j) = popL st (at' wp j) ∧ (∀ p ∈ st', Bd 100 p) ∧ st'.length = m ∧ m ≤ j, ⟨_, sv, st, rfl, s3, hsv, hst, rfl, hsb, rfl, hsl⟩, ?_⟩
        rintro m σ H3 ⟨sv', st', rfl, s4, hsv', hst', ep, hsb', em, hmj⟩
        have elen : sv'.length = m := by rw [hst'.len, List.length_reverse, em]
        -- what follows the loop
        have fin : popL st (at' wp j) = st' → ∃ l xs y_1, V.ref Sd = V.ref l ∧ ([y] : List V) = [y_1] ∧ H3 l = some (.lst xs) ∧ xs.length < sizeLine ∧
            (Same H' (upd H3 l (.lst (xs ++ [y_1]))) ∧ ∃ sv st a5, ([some (.ref a), some (.ref O), some (.ref Ch), some (.ref Al), some (.ref Sd), some y] : L2.St) = [some (.ref a), some (.ref O), some (.ref Ch), some (.ref Al), some (.ref Sd), a5] ∧ (upd H3 l (.lst (xs ++ [y_1]))) Sd = some (.lst sv) ∧ TPs (upd H3 l (.lst (xs ++ [y_1]))) sv st.reverse ∧ st = half (wp.take (j + 1)) ∧ (∀ p ∈ st, Bd 100 p) ∧ st.length ≤ j + 1) := fun e => by
          have kS : Keep H3 (upd H3 Sd (.lst (sv' ++ [y]))) := Keep.lst hsv'
          refine ⟨Sd, sv', y, rfl, rfl, hsv', smallLine (by omega), Same.over s4 hSd, sv' ++ [y], at' wp j :: st', _, rfl, upd_same, ?_, ?_, fun p hp => ?_, by rw [List.length_cons]; omega⟩
          · rw [List.reverse_cons]
            exact (hst'.keep kS).snoc ((hyq.keep (Keep.of (s2.trans s4))).keep kS)
          · rw [List.take_add_one, at_get hj]
            show _ = half (wp.take j ++ [at' wp j])
            rw [half_snoc, ← est, e]
          · rcases List.mem_cons.mp hp with z | z
            · rw [z]; exact hyb
            · exact hsb' p z
        refine ⟨_, rfl, Sd, _, rfl, .inl (SqL.of hsv'), _, _, rfl, rfl, _, rfl, ?_⟩
        refine ite2 (fun w1 => ?_) (fun w1 => iteF ⟨_, rfl, .inl ⟨rfl, _, SqL.of hsv'⟩, _, rfl, fin ?_⟩)
        · have w1' : (1 : Int) < ((sv'.length : Nat) : Int) := of_decide_eq_true w1
          obtain ⟨pb, pa, r, rfl⟩ : ∃ b a r, st' = b :: a :: r := by
            match st', em with
            | [], em => simp at em; omega
            | [_], em => simp at em; omega
            | b :: a :: r, _ => exact ⟨b, a, r, rfl⟩
          have em2 : m = r.length + 2 := by rw [← em]; rfl
          obtain ⟨va, eva, hva⟩ := hst'.get (i := (pb :: pa :: r).length - 2) (by rw [List.length_reverse]; simp only [List.length_cons]; omega)
          obtain ⟨vb, evb, hvb⟩ := hst'.get (i := (pb :: pa :: r).length - 1) (by rw [List.length_reverse]; simp)
          rw [at_rev_last2] at hva
          rw [at_rev_last] at hvb
          rw [em, ← elen] at eva evb
          have ba := hsb' pa (List.mem_cons_of_mem _ List.mem_cons_self)
          have bb := hsb' pb List.mem_cons_self
          refine ⟨_, rfl, _, rfl, Sd, sv', _, va, rfl, rfl, SqL.of hsv', atI_neg (k := 2) (by decide) (by omega) eva, _, rfl, _, rfl, Sd, sv', _, vb, rfl, rfl, SqL.of hsv', atI_neg (k := 1) (by decide) (by omega) evb, _, rfl, va, vb, y, pa, pb, at' wp j, rfl, hva, hvb, hyq.keep (Keep.of (s2.trans s4)), ba, bb, _, _, rfl, rfl, _, rfl, ?_⟩
          refine ite2 (fun w2 => ?_) (fun w2 => ⟨_, rfl, .inl ⟨rfl, _, SqL.of hsv'⟩, _, rfl, fin ?_⟩)
          · have w2' : turn pa pb (at' wp j) ≤ 0 := of_decide_eq_true w2
            refine ⟨fun σ H4 => ∃ sv' st', σ = [some (.ref a), some (.ref O), some (.ref Ch), some (.ref Al), some (.ref Sd), some y] ∧ Same H' H4 ∧ H4 Sd = some (.lst sv') ∧ TPs H4 sv' st'.reverse ∧ popL st' (at' wp j) = popL st (at' wp j) ∧ (∀ p ∈ st', Bd 100 p) ∧ st'.length < m,
              fun σ H4 ⟨sv1, st1, e1, e2, e3, e4, e5, e6, e7⟩ => ⟨st1.length, e7, sv1, st1, e1, e2, e3, e4, e5, e6, rfl, by omega⟩, ?_⟩
            refine ⟨_, rfl, .inl ⟨rfl, _, SqL.of hsv'⟩, Sd, sv', vb, rfl, rfl, hsv', evb, sv'.dropLast, pa :: r, rfl, Same.over s4 hSd, upd_same, ?_, ?_, fun p hp => hsb' p (List.mem_cons_of_mem _ hp), by rw [List.length_cons]; omega⟩
            · have h := hst'.dropLast
              rw [List.reverse_cons, List.dropLast_concat] at h
              exact h.keep (Keep.lst hsv')
            · rw [← ep, popL_two, if_pos w2']
          · have w2' : ¬ turn pa pb (at' wp j) ≤ 0 := fun z => w2 (decide_eq_true z)
            rw [← ep, popL_two, if_neg w2']
        · have w1' : ¬ ((1 : Int) < ((sv'.length : Nat) : Int)) := fun z => w1 (decide_eq_true z)
          rw [← ep]
          match st', em with
          | [], _ => rfl
          | [b], _ => rfl
          | b :: a :: r, em => simp at em; omega
      · obtain ⟨s3, sv, st, a5, rfl, hsv, hst, est, hsb, hsl⟩ := h
        have hcv2 := s3 _ _ hcv
        have ewl : wp.take wl.length = wp := List.take_of_length_le (by rw [hwp.len]; exact Nat.le_refl _)
        rw [ewl] at est
        have esv := hst.len
        rw [List.length_reverse] at esv
        refine ⟨_, rfl, _, rfl, _, rfl, _, rfl, Sd, sv, rfl, SqL.of hsv, fun D hD => ?_⟩
        have sD : Same H2 (upd H2 D (.lst (cutV sv none (some (-1))))) := Same.new hD
        have ecut : cutV sv none (some (-1)) = sv.dropLast := cutV_init sv
        refine ⟨Ch, D, cv, sv.dropLast, rfl, rfl, sD _ _ hcv2, by rw [upd_same]; exact congrArg _ (congrArg _ ecut), ?_, fun Z hZ => ?_⟩
        · have := dl_len sv
          exact smallLe (by have : i < 2 := (List.getElem?_eq_some_iff.mp hx).1; omega)
        · have sZ := sD.trans (Same.new (o := .lst (cv ++ sv.dropLast)) hZ)
          have s5 := s3.trans sZ
          refine ⟨s2.trans s5, Z, _, _, _, _, rfl, ((s1.trans (s2.trans s3)).trans sD).free hZ, upd_same, ?_, ?_⟩
          · rw [ewp, ← est]
            exact (htc.keep (Keep.of s5)).app ((hst.keep (Keep.of sZ)).dropLast)
          · rw [List.length_append]
            have := dl_len sv
            omega
    · obtain ⟨s2, Ch, cv, a3, a4, a5, rfl, hCh, hcv, htc, hcl⟩ := h
      refine ⟨_, rfl, ?_⟩
      have htc : TPs H' cv (hacc o 2) := htc
      rw [hacc2] at htc
      exact k Ch H' cv o (s1.trans s2) hCh hcv hasc hmem' htc
end
end Lat

/-! D19: the law's convex polygon, its divisor. -/
namespace Lat
open PySem PySem.Spec PyProof.Rows L2 Geo Gx
abbrev sConvex : Stmt := top 50
abbrev sDivi : Stmt := top 53
theorem gcd_fm (a b : Int) : Int.gcd b (a.fmod b) = Int.gcd a b := by
  have e := Int.fmod_def a b
  have e2 : a = a.fmod b + b * a.fdiv b := by omega
  apply Nat.dvd_antisymm
  · apply Int.natCast_dvd_natCast.mp
    refine Int.dvd_coe_gcd ?_ (Int.gcd_dvd_left ..)
    have h1 : ((Int.gcd b (a.fmod b) : Nat) : Int) ∣ a.fmod b := Int.gcd_dvd_right ..
    have h2 : ((Int.gcd b (a.fmod b) : Nat) : Int) ∣ b := Int.gcd_dvd_left ..
    generalize ((Int.gcd b (a.fmod b) : Nat) : Int) = g at *
    rw [e2]
    exact Int.dvd_add h1 (Int.dvd_mul_of_dvd_left h2)
  · apply Int.natCast_dvd_natCast.mp
    have h1 : ((Int.gcd a b : Nat) : Int) ∣ a := Int.gcd_dvd_left ..
    have h2 : ((Int.gcd a b : Nat) : Int) ∣ b := Int.gcd_dvd_right ..
    refine Int.dvd_coe_gcd h2 ?_
    rw [e]
    exact Int.dvd_sub h1 (Int.dvd_mul_of_dvd_left h2)
theorem fmod_lt (a : Int) {b : Int} (h : b ≠ 0) : (a.fmod b).natAbs < b.natAbs := by
  rcases Int.lt_or_le 0 b with z | z
  · have h1 := Int.fmod_nonneg_of_pos a z
    have h2 := Int.fmod_lt_of_pos a z
    omega
  · have h1 := Int.fmod_nonneg_of_pos (-a) (show 0 < -b by omega)
    have h2 := Int.fmod_lt_of_pos (-a) (show 0 < -b by omega)
    rw [Int.neg_fmod_neg] at h1 h2
    omega
theorem nd_len : ∀ {l m : List Pt}, l.Nodup → (∀ x ∈ l, x ∈ m) → l.length ≤ m.length
  | [], m, _, _ => Nat.zero_le _
  | x :: l, m, h, s => by
    obtain ⟨h1, h2⟩ := List.nodup_cons.mp h
    have hx := s x List.mem_cons_self
    have q := nd_len (m := m.erase x) h2 (fun y hy => (List.mem_erase_of_ne (fun (z : y = x) => h1 (z ▸ hy))).mpr (s y (List.mem_cons_of_mem _ hy)))
    rw [List.length_erase_of_mem hx] at q
    have : 0 < m.length := List.length_pos_of_mem hx
    rw [List.length_cons]
    omega
theorem asc_nd : ∀ {l : List Pt}, l.Pairwise Lx → l.Nodup := fun h => h.imp fun q => lx_ne q
theorem Drw.lst {H : Hp} {d : Addr} (h : Drw H d) : ∃ xs, H d = some (.lst xs) := let ⟨_, _, e, _⟩ := h; ⟨_, e⟩
theorem Keep.but {H H' : Hp} {d : Addr} (h : Drw H d) (b : But d H H') : Keep H H' := fun t xs e => by
  obtain ⟨ys, hy⟩ := h.lst
  exact b t _ (ne_of e hy (fun z => nomatch z)) e
theorem Drw.same {H H' : Hp} {d : Addr} (h : Drw H d) (s : Same H H') : Drw H' d := let ⟨x, z, e, r⟩ := h; ⟨x, z, s _ _ e, r⟩
theorem But.free {H H' : Hp} {d c : Addr} (hd : Drw H d) (b : But d H H') (hdd : Drw H' d) (n : H' c = none) : H c = none := by
  by_cases e : c = d
  · subst e
    obtain ⟨ys, hy⟩ := hdd.lst
    rw [hy] at n
    cases n
  · cases q : H c with
    | none => rfl
    | some o =>
      rw [b c o e q] at n
      cases n
theorem But.over {H H' : Hp} {d c : Addr} {o : HO} (b : But d H H') (n : H c = none) : But d H (upd H' c o) := fun x u hx e => by
  rw [upd_ne (fun (z : x = c) => by rw [z, n] at e; cases e)]
  exact b x u hx e
section
variable {P : Program} {w : World} {K : PySem.W.Frag} {mg : Str → Option Value} {base : Heap}
theorem scDivi : FnScope ["_law_first", "_law_second"] ["_law_first", "_law_second"] (defScope sDivi) := ⟨rfl, rfl, rfl, by decide +kernel, rfl, by decide +kernel, by decide +kernel⟩
theorem ok_divi {f : Addr} {fd : FuncData} (F : Fun K "_law_divisor" "_law_divisor" sDivi f fd) (m1 : mg "abs" = none) : FnOk P w K mg base CX0 1 f fd ["_law_first", "_law_second"] spGcd := by
  refine F.ok scDivi (fun vs H Q E h => ?_) (fun cdv A outer s H vs Q E hr h => ?_)
  · obtain ⟨a, b, rfl, _⟩ := h; rfl
  · obtain ⟨a, b, rfl, k⟩ := h
    refine ⟨_, pss_cons (ps_while PassesOwn.never (pt_cmpR op_ne (pv 1) pe_int (nomark _)) (pss_one (ps_par (i := 0) (j := 1) (by rfl) scDivi.nd rfl rfl (by decide) rfl rfl (pa_cons (pv 1) (pa_cons (pe_op op_modN (pv 0) (pv 1)) pa_nil)) (by rfl))))
      (pss_one (ps_ret (pe_callB call_abs (by rfl) m1 (by decide +kernel) (pa_cons (pv 0) pa_nil)))), ?_⟩
    refine ⟨fun m σ H' => ∃ x y : Int, σ = [some (.int x), some (.int y)] ∧ y.natAbs = m ∧ H' = H ∧ Int.gcd x y = Int.gcd a b, ⟨_, a, b, rfl, rfl, rfl, rfl⟩, ?_⟩
    rintro m σ H' ⟨x, y, rfl, rfl, rfl, hg⟩
    refine ⟨_, rfl, rfl, _, rfl, ?_⟩
    refine ite2 (fun w => ?_) (fun w => ?_)
    · have hy : y ≠ 0 := fun z => by
        rw [z] at w
        exact absurd w (by decide)
      refine ⟨fun σ' H'' => ∃ x' y' : Int, σ' = [some (.int x'), some (.int y')] ∧ y'.natAbs < y.natAbs ∧ H'' = H' ∧ Int.gcd x' y' = Int.gcd a b, fun σ' H'' ⟨x', y', e1, e2, e3, e4⟩ => ⟨y'.natAbs, e2, x', y', e1, rfl, e3, e4⟩, ?_⟩
      refine ⟨_, rfl, _, rfl, _, rfl, _, _, rfl, rfl, hy, _, _, rfl, ?_⟩
      exact ⟨y, x.fmod y, rfl, fmod_lt x hy, rfl, by rw [gcd_fm, hg]⟩
    · have hy : y = 0 := by
        rcases Classical.em (y = 0) with z | z
        · exact z
        · exfalso
          apply w
          show (!decide (V.int y = V.int 0)) = true
          rw [decide_eq_false (fun q => z (V.int.inj q))]
          rfl
      subst hy
      refine ⟨_, rfl, _, rfl, ?_⟩
      rw [abs_val]
      have e : x.natAbs = Int.gcd a b := by rw [← hg, Int.gcd_zero_right]
      rw [e]
      exact k
theorem scConvex : FnScope ["_law_draws_here", "_law_most", "_law_wide", "_law_points", "_law_turn_here"] ["_law_draws_here", "_law_most", "_law_wide"] (defScope sConvex) := ⟨rfl, rfl, rfl, by decide +kernel, rfl, by decide +kernel, by decide +kernel⟩
def spConvex : Sp := fun vs H Q _ => ∃ d, vs = [.ref d, .int 5, .int 5] ∧ Drw H d ∧ ∀ D H' ys o, But d H H' → Drw H' d → H D = none → H' D = some (.lst ys) → o.Pairwise Lx → ((0, 0) : Pt) ∈ o → ((1, 0) : Pt) ∈ o → ((0, 1) : Pt) ∈ o → (∀ p ∈ o, Bd 5 p) → o.length ≤ 8 → TPs H' ys (chain o) → Q (.ref D) H'
theorem ok_convex {f : Addr} {fd : FuncData} (F : Fun K "_law_convex" "_law_convex" sConvex f fd) (C1 : Cal P w K mg base 1 "_law_draw" ["_law_draws_here", "_law_upto"] spDraw) (C2 : Cal P w K mg base 2 "_law_hull" ["_law_points"] spHull) (m1 : mg "range" = none) : FnOk P w K mg base CX0 3 f fd ["_law_draws_here", "_law_most", "_law_wide"] spConvex := by
  refine F.ok scConvex (fun vs H Q E h => ?_) (fun cdv A outer s H vs Q E hr h => ?_)
  · obtain ⟨_, rfl, _⟩ := h; rfl
  · obtain ⟨d, rfl, hd, k⟩ := h
    have hr1 := hr.mono (show 1 ≤ 2 by decide)
    refine ⟨_, pss_cons (ps_set (i := 3) scConvex.nd rfl (Or.inl rfl) (pe_lst (pa_cons (pe_tup (pa_cons pe_int (pa_cons pe_int pa_nil))) (pa_cons (pe_tup (pa_cons pe_int (pa_cons pe_int pa_nil))) (pa_cons (pe_tup (pa_cons pe_int (pa_cons pe_int pa_nil))) pa_nil)))))
      (pss_cons (ps_for PassesOwn.never rfl (pi_range1 rfl m1 (pa_cons (pe_cal C1 hr1 rfl (pa_cons (pv 0) (pa_cons (pe_op op_add (pv 1) pe_int) pa_nil))) pa_nil)) (pg_name (i := 4) scConvex.nd rfl (Or.inl rfl))
        (pss_one (ps_expr (pe_bm PySem.F.plainAttrs_list PySem.F.slot_list_append PySem.F.type_list_append mt_append (pv 3) (pa_cons (pe_tup (pa_cons (pe_op op_sub (pe_cal C1 hr1 rfl (pa_cons (pv 0) (pa_cons (pe_op op_add (pe_op op_mul pe_int (pv 2)) pe_int) pa_nil))) (pv 2))
          (pa_cons (pe_op op_sub (pe_cal C1 hr1 rfl (pa_cons (pv 0) (pa_cons (pe_op op_add (pe_op op_mul pe_int (pv 2)) pe_int) pa_nil))) (pv 2)) pa_nil))) pa_nil)))))
      (pss_one (ps_ret (pe_cal C2 hr rfl (pa_cons (pv 3) pa_nil))))), ?_⟩
    refine ⟨by show 2 ≤ sizeLine; decide, fun t1 ht1 => ⟨by show 2 ≤ sizeLine; decide, fun t2 ht2 => ⟨by show 2 ≤ sizeLine; decide, fun t3 ht3 => ⟨by show 3 ≤ sizeLine; decide, fun Pl hPl => ?_⟩⟩⟩⟩
    have a1 : Same H (upd H t1 (.tup [.int 0, .int 0])) := Same.new ht1
    have a2 : Same _ (upd (upd H t1 (.tup [.int 0, .int 0])) t2 (.tup [.int 1, .int 0])) := Same.new ht2
    have a3 : Same _ (upd (upd (upd H t1 (.tup [.int 0, .int 0])) t2 (.tup [.int 1, .int 0])) t3 (.tup [.int 0, .int 1])) := Same.new ht3
    have a4 : Same _ (upd (upd (upd (upd H t1 (.tup [.int 0, .int 0])) t2 (.tup [.int 1, .int 0])) t3 (.tup [.int 0, .int 1])) Pl (.lst [.ref t1, .ref t2, .ref t3])) := Same.new hPl
    have q1 : TP (upd (upd (upd (upd H t1 (.tup [.int 0, .int 0])) t2 (.tup [.int 1, .int 0])) t3 (.tup [.int 0, .int 1])) Pl (.lst [.ref t1, .ref t2, .ref t3])) (.ref t1) (0, 0) := ⟨t1, rfl, a4 _ _ (a3 _ _ (a2 _ _ upd_same))⟩
    have q2 : TP (upd (upd (upd (upd H t1 (.tup [.int 0, .int 0])) t2 (.tup [.int 1, .int 0])) t3 (.tup [.int 0, .int 1])) Pl (.lst [.ref t1, .ref t2, .ref t3])) (.ref t2) (1, 0) := ⟨t2, rfl, a4 _ _ (a3 _ _ upd_same)⟩
    have q3 : TP (upd (upd (upd (upd H t1 (.tup [.int 0, .int 0])) t2 (.tup [.int 1, .int 0])) t3 (.tup [.int 0, .int 1])) Pl (.lst [.ref t1, .ref t2, .ref t3])) (.ref t3) (0, 1) := ⟨t3, rfl, a4 _ _ upd_same⟩
    have sa := ((a1.trans a2).trans a3).trans a4
    have hPl0 : H Pl = none := ((a1.trans a2).trans a3).free hPl
    have hPlv : (upd (upd (upd (upd H t1 (.tup [.int 0, .int 0])) t2 (.tup [.int 1, .int 0])) t3 (.tup [.int 0, .int 1])) Pl (.lst [.ref t1, .ref t2, .ref t3])) Pl = some (.lst [.ref t1, .ref t2, .ref t3]) := upd_same
    generalize upd (upd (upd (upd H t1 (.tup [.int 0, .int 0])) t2 (.tup [.int 1, .int 0])) t3 (.tup [.int 0, .int 1])) Pl (.lst [.ref t1, .ref t2, .ref t3]) = H0 at *
    clear a1 a2 a3 a4 ht1 ht2 ht3 hPl
    have hd0 : Drw H0 d := hd.same sa
    have ndP : Pl ≠ d := fun z => by
      obtain ⟨xs, e⟩ := hd.lst
      rw [← z, hPl0] at e
      cases e
    refine ⟨_, rfl, _, rfl, _, _, rfl, rfl, d, 6, rfl, hd0, by decide, by decide, fun r H1 hr6 b1 hd1 => ?_⟩
    refine ⟨_, rfl, by omega, by omega, for_range (lo := 0) (n := ((r : Int)).toNat) (fun i σ H' => But d H H' ∧ Drw H' d ∧ ∃ pv pts a4, σ = [some (.ref d), some (.int 5), some (.int 5), some (.ref Pl), a4] ∧ H' Pl = some (.lst pv) ∧ TPs H' pv pts ∧ pts.length = 3 + i ∧ ((0, 0) : Pt) ∈ pts ∧ ((1, 0) : Pt) ∈ pts ∧ ((0, 1) : Pt) ∈ pts ∧ ∀ p ∈ pts, Bd 5 p)
      ⟨(But.of sa).trans b1, hd1, _, [(0, 0), (1, 0), (0, 1)], _, rfl, b1 _ _ ndP hPlv, ?_, rfl, by simp, by simp, by simp, ?_⟩ ?_ (fun σ H' h => ?_)⟩
    · have kb := Keep.but hd0 b1
      exact .cons (q1.keep kb) (.cons (q2.keep kb) (.cons (q3.keep kb) .nil))
    · intro p hp
      rcases List.mem_cons.mp hp with z | hp
      · rw [z]; unfold Bd; decide
      · rcases List.mem_cons.mp hp with z | hp
        · rw [z]; unfold Bd; decide
        · rw [List.mem_singleton.mp hp]; unfold Bd; decide
    · rintro i σ H' hi ⟨b2, hd2, pl, pts, a4, rfl, hpl, hpt, hlen, m00, m10, m01, hbd⟩
      refine ⟨_, rfl, .inl ⟨rfl, _, SqL.of hpl⟩, ?_⟩
      refine ⟨_, rfl, _, rfl, _, _, rfl, rfl, .inl (by decide), _, _, rfl, rfl, d, 11, rfl, hd2, by decide, by decide, fun x H2 hx b3 hd3 => ⟨_, rfl, _, _, rfl, rfl, ?_⟩⟩
      refine ⟨_, rfl, _, rfl, _, _, rfl, rfl, .inl (by decide), _, _, rfl, rfl, d, 11, rfl, hd3, by decide, by decide, fun y H3 hy b4 hd4 => ⟨_, rfl, _, _, rfl, rfl, ?_⟩⟩
      refine ⟨by show 2 ≤ sizeLine; decide, fun t ht => ?_⟩
      have st : Same H3 (upd H3 t (.tup [.int ((x : Int) - 5), .int ((y : Int) - 5)])) := Same.new ht
      have hpl3 : H3 Pl = some (.lst pl) := b4 _ _ ndP (b3 _ _ ndP hpl)
      have hplt := st _ _ hpl3
      have kk : Keep H' (upd H3 t (.tup [.int ((x : Int) - 5), .int ((y : Int) - 5)])) := ((Keep.but hd2 b3).trans (Keep.but hd3 b4)).trans (Keep.of st)
      have kl : Keep (upd H3 t (.tup [.int ((x : Int) - 5), .int ((y : Int) - 5)])) (upd (upd H3 t (.tup [.int ((x : Int) - 5), .int ((y : Int) - 5)])) Pl (.lst (pl ++ [.ref t]))) := Keep.lst hplt
      have el := hpt.len
      refine ⟨Pl, pl, .ref t, rfl, rfl, hplt, smallLine (by omega), ?_, ?_, pl ++ [.ref t], pts ++ [((x : Int) - 5, (y : Int) - 5)], _, rfl, upd_same, ?_, by rw [List.length_append, hlen]; simp; omega, List.mem_append_left _ m00, List.mem_append_left _ m10, List.mem_append_left _ m01, fun p hp => ?_⟩
      · exact But.over (((b2.trans b3).trans b4).trans (But.of st)) hPl0
      · obtain ⟨x4, z4, e4, r4⟩ := hd4
        exact ⟨x4, z4, by rw [upd_ne (Ne.symm ndP)]; exact st _ _ e4, r4⟩
      · exact ((hpt.keep kk).keep kl).snoc ⟨t, rfl, by rw [upd_ne (ne_of upd_same hplt (fun z => nomatch z)), upd_same]⟩
      · rcases List.mem_append.mp hp with z | z
        · exact hbd p z
        · rw [List.mem_singleton.mp z]
          unfold Bd; simp only; omega
    · obtain ⟨b2, hd2, pl, pts, a4, rfl, hpl, hpt, hlen, m00, m10, m01, hbd⟩ := h
      refine ⟨_, rfl, Pl, pl, pts, rfl, hpl, hpt, by omega, fun p hp => (hbd p hp).up (by decide), fun D H2 ys o s3 hD hys hasc hmem htp => ?_⟩
      refine k D H2 ys o (b2.trans (But.of s3)) (hd2.same s3) (But.free hd b2 hd2 hD) hys hasc ((hmem _).mpr m00) ((hmem _).mpr m10) ((hmem _).mpr m01) (fun p hp => hbd p ((hmem p).mp hp)) ?_ htp
      have := nd_len (asc_nd hasc) (fun x hx => (hmem x).mp hx)
      omega
end
end Lat

/-! D20: what the law expects. -/
namespace Lat
open PySem PySem.Spec PyProof.Rows L2 Geo Gx
abbrev sExp : Stmt := top 54
def keyOf (d : Pt) : List Key := [Sum.inl d.1, Sum.inl d.2]
theorem keyOf_inj {d e : Pt} (h : keyOf d = keyOf e) : d = e := by
  unfold keyOf at h
  injection h with h1 h
  injection h with h2 _
  injection h1 with h1
  injection h2 with h2
  exact Prod.ext h1 h2
def ent (ps : List Pt) (d : Pt) : List Key × V := (keyOf d, V.int (W ps d))
theorem val_ent {ps : List Pt} {d : Pt} : ∀ {ds : List Pt}, d ∈ ds → valV (ds.map (ent ps)) (keyOf d) = some (V.int (W ps d))
  | e :: ds, h => by
    rw [List.map_cons]
    by_cases z : keyOf e = keyOf d
    · rw [valV_pos (p := ent ps e) z, keyOf_inj z]; rfl
    · rw [valV_neg (p := ent ps e) z]
      rcases List.mem_cons.mp h with q | q
      · exact absurd (by rw [q]) z
      · exact val_ent q
theorem no_ent {ps : List Pt} {d : Pt} : ∀ {ds : List Pt}, d ∉ ds → valV (ds.map (ent ps)) (keyOf d) = none
  | [], _ => rfl
  | e :: ds, h => by
    rw [List.map_cons]
    rw [valV_neg (p := ent ps e) (fun z => h (by rw [keyOf_inj z]; exact List.mem_cons_self))]
    exact no_ent (fun z => h (List.mem_cons_of_mem _ z))
theorem lc_kt {d : Addr} {o : Obj} {kvs : List (List Key × V)} {g : TG} {tt : TT} {te : TE} {vs : List Nat} {σ : L2.St} {H1 : Hp} {D : Addr} {Qd : Hp → Prop} (Pv : Nat → Hp → Prop) (h0 : Pv 0 (upd H1 D (.lst []))) (hl : ∀ i H, i ≤ kvs.length → Pv i H → H d = some (.frz o (.dT kvs)))
    (hs : ∀ (i : Nat) (k : List Key) (v : V) (q : Addr) (H : Hp), kvs[i]? = some (k, v) → H q = some (.tup (k.map kV)) → Pv i H → g (.ref q) (wipe σ vs) H fun σ2 H2 => wipe σ2 vs = wipe σ vs ∧ tt σ2 H2 fun b H3 =>
      if b = true then te σ2 H3 fun y H4 => ∃ acc, H4 D = some (.lst acc) ∧ acc.length < sizeLine ∧ Pv (i + 1) (upd H4 D (.lst (acc ++ [y]))) else Pv (i + 1) H3) (hd : ∀ H, Pv kvs.length H → Qd H) :
    ∃ W : Nat → Nat → Hp → Prop, (∃ m, W 0 m (upd H1 D (.lst []))) ∧ ∀ i m H, W i m H →
      ((Itkt d o kvs).stop i H ∧ Qd H) ∨ ((Itkt d o kvs).go i H ∧ ∃ Nx : Hp → Prop, (∀ H', Nx H' → ∃ m', m' < m ∧ W (i + 1) m' H') ∧ ∀ x H', (Itkt d o kvs).yld i H x H' → g x (wipe σ vs) H' fun σ2 H2 => wipe σ2 vs = wipe σ vs ∧ tt σ2 H2 fun b H3 =>
        if b = true then te σ2 H3 fun y H4 => ∃ acc, H4 D = some (.lst acc) ∧ acc.length < sizeLine ∧ Nx (upd H4 D (.lst (acc ++ [y]))) else Nx H3) := by
  refine ⟨fun i m H => m = kvs.length - i ∧ i ≤ kvs.length ∧ Pv i H, ⟨kvs.length, rfl, Nat.zero_le _, h0⟩, fun i m H ⟨em, hi, p⟩ => ?_⟩
  subst em
  have q := hl i H hi p
  rcases Nat.lt_or_ge i kvs.length with hlt | hge
  · refine .inr ⟨⟨q, hlt⟩, Pv (i + 1), fun H' p' => ⟨kvs.length - (i + 1), by omega, rfl, hlt, p'⟩, fun x H' y => ?_⟩
    obtain ⟨e1, k, v, qa, e2, e3, e4⟩ := y
    rw [e3, e1]
    exact hs i k v qa H e2 e4 p
  · have e : i = kvs.length := Nat.le_antisymm hi hge
    exact .inl ⟨⟨q, hge⟩, hd H (e ▸ p)⟩
theorem unlock {H H' : Hp} {a : Addr} {o o' : HO} (s : Same (upd H a o') H') (e : H a = some o) : Same H (upd H' a o) := fun b u hb => by
  by_cases z : b = a
  · subst z
    rw [hb] at e
    cases e
    exact upd_same
  · rw [upd_ne z]
    exact s _ _ (by rw [upd_ne z]; exact hb)
def dAcc (d : Pt) (ps : List Pt) (i : Nat) : List V := ((ps.map (dt d)).take i).map V.int
theorem dAcc_succ {d : Pt} {ps : List Pt} {i : Nat} (h : i < ps.length) : dAcc d ps (i + 1) = dAcc d ps i ++ [V.int (dt d (at' ps i))] := by
  unfold dAcc
  rw [List.take_add_one, List.getElem?_map, at_get h, List.map_append]
  rfl
theorem dAcc_len (d : Pt) (ps : List Pt) (i : Nat) : (dAcc d ps i).length ≤ ps.length := by
  unfold dAcc
  simp only [List.length_map, List.length_take]
  omega
theorem dAcc_all (d : Pt) (ps : List Pt) {n : Nat} (h : n = ps.length) : dAcc d ps n = (ps.map (dt d)).map V.int := by
  unfold dAcc
  rw [List.take_of_length_le (by rw [List.length_map]; omega)]
/-- all normalized directions up to m, searched through -/
theorem exp_lw {ps ds qs : List Pt} {M : Int} {m : Nat} (U : Unit ps) (hc : ∃ d, Nz d ∧ W ps d ≤ m) (hds : ∀ d, d ∈ ds ↔ Nz d ∧ 0 ≤ d.1 ∧ d.1 ≤ m ∧ -(m : Int) ≤ d.2 ∧ d.2 ≤ m) (hM : ∃ d ∈ ds, W ps d = M) (hlow : ∀ d ∈ ds, M ≤ W ps d)
    (hasc : qs.Pairwise Lx) (hmem : ∀ d, d ∈ qs ↔ d ∈ ds ∧ W ps d = M) : LW ps M qs := by
  have hall : ∀ d, Nz d → W ps d ≤ (m : Int) → d ∈ ds := fun d hd hw => by
    obtain ⟨u1, u2, u3, u4⟩ := U.ge d
    have hp : 0 ≤ d.1 := by
      have h := hd.2
      unfold Lx at h
      simp only at h
      omega
    exact (hds d).mpr ⟨hd, hp, by omega, by omega, by omega⟩
  obtain ⟨d0, h0, h1⟩ := hc
  refine lw_of U (fun d hd => ?_) ⟨d0, hall d0 h0 h1, h1⟩ hall hM hlow hasc (fun d => ?_)
  · intro z
    have h := ((hds d).mp hd).1.2
    rw [z] at h
    exact lx_irrefl h
  · rw [hmem]
    constructor
    · rintro ⟨a, b⟩
      exact ⟨a, b, ((hds d).mp a).1⟩
    · rintro ⟨a, b, _⟩
      exact ⟨a, b⟩
section
variable {P : Program} {w : World} {K : PySem.W.Frag} {mg : Str → Option Value} {base : Heap}
abbrev nmE : List Str := ["_law_corners", "_law_most", "_law_found", "_law_p", "_law_q", "_law_values", "_law_least", "_law_x", "_law_y", "_law_key"]
theorem scExp : FnScope nmE ["_law_corners", "_law_most"] (defScope sExp) := ⟨rfl, rfl, rfl, by decide +kernel, rfl, by decide +kernel, by decide +kernel⟩
def spExp : Sp := fun vs H Q _ => ∃ a xs ps m, vs = [.ref a, .int (m : Nat)] ∧ H a = some (.lst xs) ∧ TPs H xs ps ∧ Cv ps ∧ Unit ps ∧ m ≤ 20 ∧ (∃ d, Nz d ∧ W ps d ≤ m) ∧ ∀ D L H' M vs ds, LW ps M ds → Same H H' → H' D = some (.tup [.int M, .ref L]) → H' L = some (.lst vs) → TPs H' vs ds → Q (.ref D) H'
theorem ok_exp {f : Addr} {fd : FuncData} (F : Fun K "_law_expected" "_law_expected" sExp f fd) (CD : Cal P w K mg base 1 "_law_divisor" ["_law_first", "_law_second"] spGcd) (m1 : mg "range" = none) (m2 : mg "max" = none) (m3 : mg "min" = none) (m4 : mg "sorted" = none) : FnOk P w K mg base CX0 2 f fd ["_law_corners", "_law_most"] spExp := by
  refine F.ok scExp (fun vs H Q E h => ?_) (fun cdv A outer s H vs Q E hr h => ?_)
  · obtain ⟨_, _, _, _, rfl, _⟩ := h; rfl
  · obtain ⟨a, xs, ps, m, rfl, ha, hp, cv, hU, hm20, hcert, k⟩ := h
    have h3 := cv.three
    have h60 := cv.few
    have el := hp.len
    refine ⟨_, pss_cons (ps_set (i := 2) scExp.nd rfl (Or.inr rfl) pe_dnewT)
      (pss_cons (ps_for PassesOwn.never rfl (pi_range1 rfl m1 (pa_cons (pe_op op_add (pv 1) pe_int) pa_nil)) (pg_name (i := 3) scExp.nd rfl (Or.inr rfl))
        (pss_one (ps_for PassesOwn.never rfl (pi_range2 rfl m1 (pa_cons (pe_op op_sub pe_int (pv 1)) (pa_cons (pe_op op_add (pv 1) pe_int) pa_nil))) (pg_name (i := 4) scExp.nd rfl (Or.inr rfl))
          (pss_one (ps_if (PW.pt (pw_and (pt_cmpR op_eq (pe_cal CD hr rfl (pa_cons (pv 3) (pa_cons (pv 4) pa_nil))) pe_int (nomark _)) (pw_and1 (pt_cmpR (op_gtP hr.units) (pe_tup (pa_cons (pv 3) (pa_cons (pv 4) pa_nil))) (pe_tup (pa_cons pe_int (pa_cons pe_int pa_nil))) (nomark _)))))
            (pss_cons (ps_setLc (i := 5) (own := [("_law_x", 7), ("_law_y", 8)]) (tt := tYes) rfl scExp.nd rfl rfl (sw_true rfl rfl rfl (by decide +kernel)) (pi_list (pv 0)) (blkOk_by (own := [("_law_x", 7), ("_law_y", 8)]) (N := nmE) (sc := defScope sExp) (by decide +kernel))
                (fun _ _ _ _ _ => pg_tupK 2 K rfl (pgs_cons (pg_name (i := 7) scExp.nd rfl (Or.inl rfl)) (pgs_cons (pg_name (i := 8) scExp.nd rfl (Or.inl rfl)) pgs_nil))) (fun _ _ _ _ _ => pts_nil)
                (fun _ _ _ _ _ => pe_op op_add (pe_op op_mul (pv 3) (pv 7)) (pe_op op_mul (pv 4) (pv 8))))
              (pss_one (ps_dput (hu_of hr) (pv 2) (pe_tup (pa_cons (pv 3) (pa_cons (pv 4) pa_nil))) (pe_op op_sub (pe_callB (cr_max rfl) (by rfl) m2 (by decide +kernel) (pa_cons (pv 5) pa_nil)) (pe_callB (cr_min rfl) (by rfl) m3 (by decide +kernel) (pa_cons (pv 5) pa_nil))) rfl)))
            pss_nil)))))
      (pss_cons (ps_set (i := 6) scExp.nd rfl (Or.inr rfl) (pe_callB (cr_min rfl) (by rfl) m3 (by decide +kernel) (pa_cons (pe_lock (pe_lc (own := [("_law_key", 9)]) (g := gName 9) (tt := tYes) rfl scExp.nd (pi_keys (pv 2)) (blkOk_by (own := [("_law_key", 9)]) (N := nmE) (sc := defScope sExp) (by decide +kernel))
          (fun _ _ _ _ _ => pg_name (i := 9) scExp.nd rfl (Or.inl rfl)) (fun _ _ _ _ _ => pts_nil) (fun _ _ _ _ _ => pe_dget (hu_of hr) (pv 2) (pv 9) (fun _ _ => rfl)))) pa_nil)))
      (pss_one (ps_ret (pe_tup (pa_cons (pv 6) (pa_cons (pe_callB cr_sortP (by rfl) m4 (by decide +kernel) (pa_cons (pe_lock (pe_lc (own := [("_law_key", 9)]) (g := gName 9) rfl scExp.nd (pi_keys (pv 2)) (blkOk_by (own := [("_law_key", 9)]) (N := nmE) (sc := defScope sExp) (by decide +kernel))
          (fun _ _ _ _ _ => pg_name (i := 9) scExp.nd rfl (Or.inl rfl)) (fun _ _ _ _ _ => pts_one (pt_cmpR op_eq (pe_dget (hu_of hr) (pv 2) (pv 9) (fun _ _ => rfl)) (pv 6) (nomark _))) (fun _ _ _ _ _ => pv 9))) pa_nil)) pa_nil))))))), ?_⟩
    refine fun Fd hFd => ?_
    have s0 : Same H (upd H Fd (.dT [])) := Same.new hFd
    refine ⟨_, rfl, _, _, rfl, rfl, _, rfl, by omega, by omega, for_range (lo := 0) (n := ((m : Int) + 1).toNat) (fun i σ H' => Same H H' ∧ ∃ ds a3 a4 a5, σ = [some (.ref a), some (.int (m : Nat)), some (.ref Fd), a3, a4, a5, none, none, none, none] ∧ H' Fd = some (.dT (ds.map (ent ps))) ∧ ds.Nodup ∧ ds.length ≤ i * 41 ∧ ∀ d, d ∈ ds ↔ Nz d ∧ 0 ≤ d.1 ∧ d.1 < i ∧ -(m : Int) ≤ d.2 ∧ d.2 ≤ m)
      ⟨s0, [], _, _, _, rfl, upd_same, List.nodup_nil, Nat.le_refl _, fun d => ⟨(fun h => nomatch h), fun h => by omega⟩⟩ ?_ (fun σ H' h => ?_)⟩
    · rintro i σ H' hi ⟨s1, ds, a3, a4, a5, rfl, hF, hnd, hlen, hds⟩
      have hi' : i ≤ m := by omega
      have e0 : (0 : Int) + (i : Nat) = (i : Int) := by omega
      refine ⟨_, rfl, _, _, rfl, rfl, _, rfl, _, _, rfl, rfl, _, _, rfl, ⟨by omega, by omega, by omega, by omega⟩, for_range (lo := 0 - (m : Int)) (n := ((m : Int) + 1 - (0 - (m : Int))).toNat) (fun j σ H2 => Same H H2 ∧ ∃ ds a4 a5, σ = [some (.ref a), some (.int (m : Nat)), some (.ref Fd), some (.int (0 + (i : Nat))), a4, a5, none, none, none, none] ∧ H2 Fd = some (.dT (ds.map (ent ps))) ∧ ds.Nodup ∧ ds.length ≤ i * 41 + j ∧ ∀ d, d ∈ ds ↔ Nz d ∧ 0 ≤ d.1 ∧ (d.1 < i ∨ (d.1 = i ∧ d.2 < 0 - (m : Int) + j)) ∧ -(m : Int) ≤ d.2 ∧ d.2 ≤ m)
        ⟨s1, ds, _, _, rfl, hF, hnd, by omega, fun d => by rw [hds d]; constructor <;> (rintro ⟨z1, z2, z3, z4, z5⟩; exact ⟨z1, z2, by omega, z4, z5⟩)⟩ ?_ (fun σ H2 h => ?_)⟩
      · rintro j σ H2 hj ⟨s2, ds, a4, a5, rfl, hF, hnd, hlen, hds⟩
        have hj' : j ≤ 2 * m := by omega
        obtain ⟨dd, edd⟩ : ∃ dd : Pt, dd = (0 + ((i : Nat) : Int), 0 - (m : Int) + ((j : Nat) : Int)) := ⟨_, rfl⟩
        have e1 : dd.1 = 0 + ((i : Nat) : Int) := by rw [edd]
        have e2 : dd.2 = 0 - (m : Int) + ((j : Nat) : Int) := by rw [edd]
        have skip : ¬ Nz dd → ∀ d, d ∈ ds ↔ Nz d ∧ 0 ≤ d.1 ∧ (d.1 < i ∨ (d.1 = i ∧ d.2 < 0 - (m : Int) + (j + 1 : Nat))) ∧ -(m : Int) ≤ d.2 ∧ d.2 ≤ m := fun hn d => by
          rw [hds d]
          constructor
          · rintro ⟨z1, z2, z3, z4, z5⟩
            exact ⟨z1, z2, by omega, z4, z5⟩
          · rintro ⟨z1, z2, z3, z4, z5⟩
            refine ⟨z1, z2, ?_, z4, z5⟩
            rcases Classical.em (d.1 = i ∧ d.2 = 0 - (m : Int) + (j : Nat)) with z | z
            · exact absurd (by rw [show dd = d from Prod.ext (by omega) (by omega)]; exact z1) hn
            · omega
        refine ⟨_, rfl, _, rfl, dd.1, dd.2, (by rw [e1, e2]; rfl), rfl, _, rfl, ?_⟩
        refine ite2 (fun wg => ?_) (fun wg => ?_)
        · have hg : Int.gcd dd.1 dd.2 = 1 := by
            have z := V.int.inj (of_decide_eq_true wg)
            omega
          refine ⟨_, rfl, _, rfl, by show 2 ≤ sizeLine; decide, fun t1 ht1 => ⟨by show 2 ≤ sizeLine; decide, fun t2 ht2 => ?_⟩⟩
          have sa : Same H2 (upd H2 t1 (.tup [.int (0 + (i : Nat)), .int (0 - (m : Int) + (j : Nat))])) := Same.new ht1
          have sb2 := sa.trans (Same.new (o := .tup [.int 0, .int 0]) ht2)
          have n12 : t1 ≠ t2 := ne_of_none upd_same ht2
          refine ⟨dd, (0, 0), ⟨t1, rfl, by rw [upd_ne n12, upd_same, edd]⟩, ⟨t2, rfl, upd_same⟩, _, rfl, ?_⟩
          have s3 := s2.trans sb2
          refine ite2 (fun wl => ?_) (fun wl => ⟨s3, ds, _, _, rfl, sb2 _ _ hF, hnd, by omega, skip (fun z => wl (decide_eq_true z.2))⟩)
          have hNz : Nz dd := ⟨hg, of_decide_eq_true wl⟩
          have ha3 := s3 _ _ ha
          have hp3 := hp.keep (Keep.of s3)
          refine ⟨_, rfl, a, rfl, ⟨_, SqL.of ha3⟩, fun D hD => lc_list (xs := xs) (fun n H4 => H4 = upd (upd (upd H2 t1 (.tup [.int (0 + (i : Nat)), .int (0 - (m : Int) + (j : Nat))])) t2 (.tup [.int 0, .int 0])) D (.lst (dAcc dd ps n))) rfl (fun n H4 _ e => ?_) (fun n x H4 hx e => ?_) (fun H4 e => ?_)⟩
          · subst e
            exact SqL.of (Same.new hD _ _ ha3)
          · subst e
            obtain ⟨hn, t, rfl, ht⟩ := hp3.at hx
            have kD : Same _ (upd (upd (upd H2 t1 (.tup [.int (0 + (i : Nat)), .int (0 - (m : Int) + (j : Nat))])) t2 (.tup [.int 0, .int 0])) D (.lst (dAcc dd ps n))) := Same.new hD
            refine ⟨t, _, rfl, SqT.of (kD _ _ ht), rfl, _, _, rfl, _, _, rfl, rfl, rfl, tyes ?_⟩
            refine ⟨_, rfl, _, rfl, _, _, rfl, rfl, .inl (far (by omega) (by omega)), _, rfl, _, rfl, _, _, rfl, rfl, .inl (far (by omega) (by omega)), _, _, rfl, rfl, _, upd_same, ?_, ?_⟩
            · exact smallLine (Nat.le_trans (dAcc_len _ _ _) (by omega))
            · rw [upd_upd, dAcc_succ hn]
              unfold dt
              rw [e1, e2]
          · subst e
            rw [dAcc_all dd ps el]
            have hpos : 0 < (ps.map (dt dd)).length := by rw [List.length_map]; omega
            have kD : Same _ (upd (upd (upd H2 t1 (.tup [.int (0 + (i : Nat)), .int (0 - (m : Int) + (j : Nat))])) t2 (.tup [.int 0, .int 0])) D (.lst ((ps.map (dt dd)).map V.int))) := Same.new hD
            refine ⟨_, rfl, D, ps.map (dt dd), rfl, SqL.of upd_same, hpos, fun mxv hmx hle => ?_⟩
            refine ⟨_, rfl, D, ps.map (dt dd), rfl, SqL.of upd_same, hpos, fun mnv hmn hge => ?_⟩
            have eW : mxv - mnv = W ps dd := by
              unfold W
              rw [← mx_uniq hmx hle, ← mn_uniq hmn hge]
            refine ⟨_, _, rfl, rfl, _, rfl, _, rfl, _, rfl, by show 2 ≤ sizeLine; decide, fun kt hkt => ?_⟩
            have sk := kD.trans (Same.new (o := .tup [.int (0 + (i : Nat)), .int (0 - (m : Int) + (j : Nat))]) hkt)
            have hF5 := sk _ _ (sb2 _ _ hF)
            have hnot : dd ∉ ds := fun z => by
              obtain ⟨_, _, z3, _⟩ := (hds dd).mp z
              omega
            refine ⟨Fd, _, rfl, DPut.t (k := keyOf dd) hF5 (by rw [upd_same]; unfold keyOf; rw [e1, e2]; rfl) ?_, ?_⟩
            · rw [List.length_map]
              have : i * 41 ≤ 20 * 41 := Nat.mul_le_mul_right _ (by omega)
              exact smallLine (by omega)
            · rw [putK_new _ (no_ent hnot)]
              refine ⟨Same.over (s3.trans sk) hFd, ds ++ [dd], _, _, rfl, ?_, ?_, ?_, fun d => ?_⟩
              · rw [upd_same, List.map_append]
                have e3 : ent ps dd = (keyOf dd, V.int (mxv - mnv)) := by unfold ent; rw [eW]
                show _ = some (HO.dT (ds.map (ent ps) ++ [ent ps dd]))
                rw [e3]
              · refine List.nodup_append.mpr ⟨hnd, List.nodup_cons.mpr ⟨List.not_mem_nil, List.nodup_nil⟩, fun p1 hp1 p2 hp2 z => ?_⟩
                rw [List.mem_singleton.mp hp2] at z
                exact hnot (z ▸ hp1)
              · rw [List.length_append, List.length_singleton]
                omega
              · rw [List.mem_append, hds d, List.mem_singleton]
                constructor
                · rintro (⟨z1, z2, z3, z4, z5⟩ | z)
                  · exact ⟨z1, z2, by omega, z4, z5⟩
                  · rw [z]
                    exact ⟨hNz, by omega, by omega, by omega, by omega⟩
                · rintro ⟨z1, z2, z3, z4, z5⟩
                  rcases Classical.em (d.1 = i ∧ d.2 = 0 - (m : Int) + (j : Nat)) with z | z
                  · exact .inr (Prod.ext (by omega) (by omega))
                  · exact .inl ⟨z1, z2, by omega, z4, z5⟩
        · refine ⟨s2, ds, _, _, rfl, hF, hnd, by omega, skip (fun z => wg (decide_eq_true ?_))⟩
          rw [z.1]
          rfl
      · obtain ⟨s2, ds, a4, a5, rfl, hF, hnd, hlen, hds⟩ := h
        refine ⟨s2, ds, _, _, _, rfl, hF, hnd, by omega, fun d => ?_⟩
        rw [hds d]
        constructor <;> (rintro ⟨z1, z2, z3, z4, z5⟩; exact ⟨z1, z2, by omega, z4, z5⟩)
    · obtain ⟨s1, ds, a3, a4, a5, rfl, hF, hnd, hlen, hds⟩ := h
      have hds' : ∀ d, d ∈ ds ↔ Nz d ∧ 0 ≤ d.1 ∧ d.1 ≤ m ∧ -(m : Int) ≤ d.2 ∧ d.2 ≤ m := fun d => by
        rw [hds d]
        constructor <;> (rintro ⟨z1, z2, z3, z4, z5⟩; exact ⟨z1, z2, by omega, z4, z5⟩)
      have hdl : ds.length ≤ 1000 := by
        have : ((m : Int) + 1).toNat * 41 ≤ 21 * 41 := Nat.mul_le_mul_right _ (by omega)
        omega
      have hent : ∀ (i : Nat) (k : List Key) (v : V), (ds.map (ent ps))[i]? = some (k, v) → ∃ hi : i < ds.length, k = keyOf (at' ds i) ∧ v = .int (W ps (at' ds i)) := fun i k v h => by
        rw [List.getElem?_map] at h
        rcases Nat.lt_or_ge i ds.length with z | z
        · rw [at_get z] at h
          have e := Option.some.inj h
          exact ⟨z, (congrArg Prod.fst e).symm, (congrArg Prod.snd e).symm⟩
        · rw [List.getElem?_eq_none z] at h
          cases h
      have hdpos : 0 < ds.length := by
        obtain ⟨d, h1, h2⟩ := hcert
        obtain ⟨u1, u2, u3, u4⟩ := hU.ge d
        have hd : d ∈ ds := (hds' d).mpr ⟨h1, by have h := h1.2; unfold Lx at h; simp only at h; omega, by omega, by omega, by omega⟩
        exact List.length_pos_of_mem hd
      -- the least width
      refine ⟨Fd, _, hF, trivial, fun od => ?_⟩
      refine ⟨_, rfl, Fd, od, rfl, .inr ⟨_, upd_same, fun D hD => lc_kt (kvs := ds.map (ent ps)) (fun i H2 => Same (upd H' Fd (.frz od (.dT (ds.map (ent ps))))) H2 ∧ H2 D = some (.lst (wAcc ps ds i))) ⟨Same.new hD, upd_same⟩ (fun i H2 _ h => h.1 _ _ upd_same) (fun i kk v q H2 hx hq h => ?_) (fun H2 h => ?_)⟩⟩
      · obtain ⟨t1, t2⟩ := h
        obtain ⟨hi, rfl, rfl⟩ := hent i kk v hx
        refine ⟨rfl, tyes ⟨_, rfl, _, rfl, Fd, _, rfl, .inr ⟨_, keyOf (at' ds i), q, .inr ⟨od, t1 _ _ upd_same⟩, rfl, hq, (val_ent (at_mem hi)).symm⟩, _, t2, ?_, Same.over t1 hD, ?_⟩⟩
        · exact smallLine (Nat.le_trans (wAcc_len _ _ _) (by omega))
        · rw [upd_same, wAcc_succ hi]
      · obtain ⟨t1, t2⟩ := h
        rw [List.length_map, wAcc_all ps ds rfl] at t2
        have nDF : D ≠ Fd := fun z => by rw [z, upd_same] at hD; cases hD
        refine ⟨t1 _ _ upd_same, D, ds.map (W ps), rfl, SqL.of (by rw [upd_ne nDF]; exact t2), by rw [List.length_map]; exact hdpos, fun M hMm hMle => ?_⟩
        have u1 : Same H' (upd H2 Fd (.dT (ds.map (ent ps)))) := unlock t1 hF
        have hF2 : (upd H2 Fd (.dT (ds.map (ent ps)))) Fd = some (.dT (ds.map (ent ps))) := upd_same
        generalize upd H2 Fd (.dT (ds.map (ent ps))) = H3 at *
        -- the directions of that width
        refine ⟨_, rfl, Fd, _, hF2, trivial, fun od2 => ?_⟩
        refine ⟨_, rfl, Fd, od2, rfl, .inr ⟨_, upd_same, fun D2 hD2 => lc_kt (kvs := ds.map (ent ps)) (fun i H4 => Same (upd H3 Fd (.frz od2 (.dT (ds.map (ent ps))))) H4 ∧ ∃ acc, H4 D2 = some (.lst acc) ∧ TPs H4 acc ((ds.take i).filter fun d => decide (W ps d = M))) ⟨Same.new hD2, [], upd_same, .nil⟩ (fun i H4 _ h => h.1 _ _ upd_same) (fun i kk v q H4 hx hq h => ?_) (fun H4 h => ?_)⟩⟩
        · obtain ⟨v1, acc, v2, v3⟩ := h
          obtain ⟨hi, rfl, rfl⟩ := hent i kk v hx
          have etake : (ds.take (i + 1)).filter (fun d => decide (W ps d = M)) = (ds.take i).filter (fun d => decide (W ps d = M)) ++ (if W ps (at' ds i) = M then [at' ds i] else []) := by
            rw [List.take_add_one, at_get hi, List.filter_append]
            congr 1
            show List.filter _ [at' ds i] = _
            rw [List.filter_cons, List.filter_nil]
            by_cases hc : W ps (at' ds i) = M
            · rw [if_pos hc, if_pos (decide_eq_true hc)]
            · rw [if_neg hc, if_neg (fun z => hc (of_decide_eq_true z))]
          refine ⟨rfl, _, rfl, _, rfl, Fd, _, rfl, .inr ⟨_, keyOf (at' ds i), q, .inr ⟨od2, v1 _ _ upd_same⟩, rfl, hq, (val_ent (at_mem hi)).symm⟩, _, rfl, rfl, _, rfl, ?_⟩
          refine ite2 (fun z => ?_) (fun z => ?_)
          · have ez : W ps (at' ds i) = M := V.int.inj (of_decide_eq_true z)
            refine ⟨_, rfl, acc, v2, ?_, Same.over v1 hD2, _, upd_same, ?_⟩
            · have h1 := v3.len
              have h2 : ((ds.take i).filter fun d => decide (W ps d = M)).length ≤ (ds.take i).length := List.length_filter_le _ _
              rw [List.length_take] at h2
              exact smallLine (by omega)
            · rw [etake, if_pos ez]
              have kl : Keep H4 (upd H4 D2 (.lst (acc ++ [.ref q]))) := Keep.lst v2
              exact (v3.keep kl).snoc ⟨q, rfl, kl _ _ hq⟩
          · have ez : ¬ W ps (at' ds i) = M := fun w => z (decide_eq_true (congrArg V.int w))
            refine ⟨v1, acc, v2, ?_⟩
            rw [etake, if_neg ez, List.append_nil]
            exact v3
        · obtain ⟨v1, acc, v2, v3⟩ := h
          rw [List.length_map, List.take_length] at v3
          have nDF2 : D2 ≠ Fd := fun z => by rw [z, upd_same] at hD2; cases hD2
          have hfz := v1 _ _ (upd_same (H := H3) (a := Fd) (o := .frz od2 (.dT (ds.map (ent ps)))))
          have u2 : Same H3 (upd H4 Fd (.dT (ds.map (ent ps)))) := unlock v1 hF2
          have ku : Keep H4 (upd H4 Fd (.dT (ds.map (ent ps)))) := fun t ys e => by rw [upd_ne (ne_of e hfz (fun z => nomatch z))]; exact e
          refine ⟨hfz, D2, acc, _, rfl, SqL.of (by rw [upd_ne nDF2]; exact v2), v3.keep ku, fun ys2 qs LS hLS htp hperm hpw => ⟨by show 2 ≤ sizeLine; decide, fun R hR => ?_⟩⟩
          have sLS := Same.new (o := .lst ys2) hLS
          have sR := Same.new (o := .tup [.int M, .ref LS]) hR
          have hlw : LW ps M qs := by
            refine exp_lw hU hcert hds' (List.mem_map.mp hMm) (fun d hd => hMle _ (List.mem_map.mpr ⟨d, hd, rfl⟩)) (asc_of hpw ?_) (fun d => ?_)
            · exact hperm.nodup_iff.mpr (List.Pairwise.filter _ hnd)
            · rw [hperm.mem_iff, List.mem_filter, decide_eq_true_iff]
          refine k R LS _ M ys2 qs hlw ?_ upd_same (sR _ _ upd_same) ((htp.keep (Keep.of sLS)).keep (Keep.of sR))
          exact (((s1.trans u1).trans u2).trans sLS).trans sR
end
end Lat

/-! D21: the law's simple polygon. -/
namespace Lat
open PySem PySem.Spec PyProof.Rows L2 Geo Gx
abbrev sClean : Stmt := top 51
abbrev sSimple : Stmt := top 52
theorem cutV_to (xs : List V) (k : Nat) : cutV xs none (some (k : Int)) = xs.take k := by
  unfold cutV
  rw [HT.sIx_nat, HT.sIx_none]
  show List.take (min k xs.length - 0) (List.drop 0 xs) = List.take k xs
  rw [List.drop_zero, Nat.sub_zero]
  rcases Nat.lt_or_ge k xs.length with h | h
  · rw [Nat.min_eq_left (by omega)]
  · rw [Nat.min_eq_right h, List.take_of_length_le h, List.take_of_length_le (Nat.le_refl _)]
section
variable {P : Program} {w : World} {K : PySem.W.Frag} {mg : Str → Option Value} {base : Heap}
theorem scClean : FnScope ["_law_corners", "_law_turn_here", "_law_flat", "_law_at"] ["_law_corners"] (defScope sClean) := ⟨rfl, rfl, rfl, by decide +kernel, rfl, by decide +kernel, by decide +kernel⟩
def spClean : Sp := fun vs H Q _ => ∃ a xs ps, vs = [.ref a] ∧ H a = some (.lst xs) ∧ TPs H xs ps ∧ ps.length ≤ 20 ∧ (∀ p ∈ ps, Bd 100 p) ∧ ∀ D H' ys qs, Same H H' → H' D = some (.lst ys) → TPs H' ys qs → (∀ q ∈ qs, q ∈ ps) → qs.length ≤ ps.length → Q (.ref D) H'
theorem ok_clean {f : Addr} {fd : FuncData} (F : Fun K "_law_cleaned" "_law_cleaned" sClean f fd) (C : Cal P w K mg base 1 "_law_turn" ["_law_first", "_law_second", "_law_third"] spLTurn) (m1 : mg "range" = none) (m2 : mg "len" = none) : FnOk P w K mg base CX0 2 f fd ["_law_corners"] spClean := by
  refine F.ok scClean (fun vs H Q E h => ?_) (fun cdv A outer s H vs Q E hr h => ?_)
  · obtain ⟨_, _, _, rfl, _⟩ := h; rfl
  · obtain ⟨a, xs, ps, rfl, ha, hp, h20, hbd, k⟩ := h
    have el := hp.len
    refine ⟨_, pss_cons (ps_for PassesOwn.never rfl (pi_range1 rfl m1 (pa_cons (pe_callB call_len_seq (by rfl) m2 PySem.boot_len (pa_cons (pv 0) pa_nil)) pa_nil)) (pg_name (i := 1) scClean.nd rfl (Or.inl rfl))
        (pss_cons (ps_set (i := 2) scClean.nd rfl (Or.inl rfl) (pe_lst pa_nil))
        (pss_cons (ps_for PassesOwn.never rfl (pi_range1 rfl m1 (pa_cons (pe_callB call_len_seq (by rfl) m2 PySem.boot_len (pa_cons (pv 0) pa_nil)) pa_nil)) (pg_name (i := 3) scClean.nd rfl (Or.inl rfl))
          (pss_one (ps_if (pt_cmpR op_eq (pe_cal C hr rfl (pa_cons (pe_ix ix_list (pv 0) (pe_op op_sub (pv 3) pe_int) (fun _ _ => rfl)) (pa_cons (pe_ix ix_list (pv 0) (pv 3) (fun _ _ => rfl)) (pa_cons (pe_ix ix_list (pv 0) (pe_op op_modN (pe_op op_add (pv 3) pe_int) (pe_callB call_len_seq (by rfl) m2 PySem.boot_len (pa_cons (pv 0) pa_nil))) (fun _ _ => rfl)) pa_nil)))) pe_int (nomark _))
            (pss_one (ps_expr (pe_bm PySem.F.plainAttrs_list PySem.F.slot_list_append PySem.F.type_list_append mt_append (pv 2) (pa_cons (pv 3) pa_nil)))) pss_nil)))
        (pss_cons (ps_if (pt_cmpR (op_eqD hr.units) (pv 2) (pe_lst pa_nil) (nomark _)) (pss_one (ps_ret (pv 0))) pss_nil)
        (pss_one (ps_set (i := 0) scClean.nd rfl (Or.inl rfl) (pe_op op_cat (pe_slice sl_list (pv 0) po_none (po_some (pe_ix ix_list (pv 2) pe_int (fun _ _ => rfl)))) (pe_slice sl_list (pv 0) (po_some (pe_op op_add (pe_ix ix_list (pv 2) pe_int (fun _ _ => rfl)) pe_int)) po_none))))))))
      (pss_one (ps_ret (pv 0))), ?_⟩
    refine ⟨_, rfl, a, xs, rfl, .inl (SqL.of ha), _, rfl, by omega, by omega, for_range (lo := 0) (n := ((xs.length : Int)).toNat) (fun _ σ H' => Same H H' ∧ ∃ c cv qs a1 a2 a3, σ = [some (.ref c), a1, a2, a3] ∧ H' c = some (.lst cv) ∧ TPs H' cv qs ∧ (∀ q ∈ qs, q ∈ ps) ∧ qs.length ≤ ps.length)
      ⟨Same.refl _, a, xs, ps, _, _, _, rfl, ha, hp, fun q h => h, Nat.le_refl _⟩ ?_ (fun σ H' h => ?_)⟩
    · rintro i σ H' hi ⟨s1, c, cv, qs, a1, a2, a3, rfl, hcv, hq, hsub, hle⟩
      have ecl := hq.len
      refine ⟨Nat.zero_le _, fun Fl hFl => ?_⟩
      have s2 : Same H' (upd H' Fl (.lst [])) := Same.new hFl
      refine ⟨_, rfl, c, cv, rfl, .inl (SqL.of (s2 _ _ hcv)), _, rfl, by omega, by omega, for_range (lo := 0) (n := ((cv.length : Int)).toNat) (fun j σ H2 => Same H' H2 ∧ ∃ (fl : List Nat) (a3 : Option V), σ = [some (.ref c), some (.int (0 + (i : Nat))), some (.ref Fl), a3] ∧ H2 Fl = some (.lst (fl.map fun n => V.int (n : Nat))) ∧ fl.length ≤ j ∧ ∀ n ∈ fl, n < cv.length)
        ⟨s2, [], _, rfl, upd_same, Nat.le_refl _, fun n h => nomatch h⟩ ?_ (fun σ H2 h => ?_)⟩
      · rintro j σ H2 hj ⟨s3, fl, a3, rfl, hfl, hfn, hfb⟩
        have hj' : j < cv.length := by omega
        have hcv2 := s3 _ _ hcv
        have hq2 := hq.keep (Keep.of s3)
        obtain ⟨x, y, z, ex, ey, ez, _⟩ := tri_of hj'
        obtain ⟨bx, hx⟩ := hq2.at ex
        obtain ⟨by', hy⟩ := hq2.at ey
        obtain ⟨bz, hz⟩ := hq2.at ez
        have e0 : (0 : Int) + (j : Nat) = (j : Int) := by omega
        rw [e0]
        refine ⟨_, rfl, _, rfl, _, _, rfl, rfl, c, cv, _, _, rfl, rfl, SqL.of hcv2, atI_prev hj' ex, ?_⟩
        refine ⟨_, rfl, _, rfl, c, cv, _, _, rfl, rfl, SqL.of hcv2, atI_nat ey, ?_⟩
        refine ⟨_, rfl, _, rfl, _, _, rfl, rfl, _, rfl, c, cv, rfl, .inl (SqL.of hcv2), _, _, rfl, rfl, by omega, c, cv, _, _, rfl, rfl, SqL.of hcv2, atI_next hj' ez, ?_⟩
        refine ⟨x, y, z, _, _, _, rfl, hx, hy, hz, hbd _ (hsub _ (at_mem bx)), hbd _ (hsub _ (at_mem by')), rfl, _, rfl, ?_⟩
        refine ite2 (fun w => ?_) (fun w => ⟨s3, fl, _, rfl, hfl, by omega, hfb⟩)
        refine ⟨_, rfl, .inl ⟨rfl, _, SqL.of hfl⟩, _, rfl, Fl, _, _, rfl, rfl, hfl, smallLine (by rw [List.length_map]; omega), ?_⟩
        refine ⟨Same.over s3 hFl, fl ++ [j], _, rfl, ?_, by rw [List.length_append, List.length_singleton]; omega, fun n hn => ?_⟩
        · rw [upd_same, List.map_append]
          rfl
        · rcases List.mem_append.mp hn with h | h
          · exact hfb n h
          · rw [List.mem_singleton.mp h]; exact hj'
      · obtain ⟨s3, fl, a3, rfl, hfl, hfn, hfb⟩ := h
        have hcv2 := s3 _ _ hcv
        have hq2 := hq.keep (Keep.of s3)
        refine ⟨_, rfl, Nat.zero_le _, fun Em hEm => ?_⟩
        have s4 : Same H2 (upd H2 Em (.lst [])) := Same.new hEm
        have hfl4 := s4 _ _ hfl
        have efl : fl.map (fun n => V.int (n : Nat)) = (fl.map fun n => ((n : Nat) : Int)).map V.int := by rw [List.map_map]; rfl
        refine ⟨.list ((fl.map fun n => ((n : Nat) : Int)).map PyData.int), .list [], .lst (SqL.of hfl4) (by rw [efl]; exact ints_dp _), .lst (SqL.of upd_same) .nil, ints_shaped _, rfl, _, rfl, ?_⟩
        have s5 := s3.trans s4
        refine ite2 (fun w => ?_) (fun w => ?_)
        · refine ⟨_, rfl, ?_⟩
          exact k c _ cv qs (s1.trans s5) (s5 _ _ hcv) (hq.keep (Keep.of s5)) hsub hle
        · obtain ⟨n, fl', rfl⟩ : ∃ n fl', fl = n :: fl' := by
            rcases fl with _ | ⟨n, fl'⟩
            · exact absurd rfl w
            · exact ⟨n, fl', rfl⟩
          have hn : n < cv.length := hfb n List.mem_cons_self
          have hcv5 := s5 _ _ hcv
          refine ⟨_, rfl, _, rfl, Fl, _, 0, V.int (n : Nat), rfl, rfl, SqL.of hfl4, atI_nat (j := 0) rfl, _, rfl, c, cv, rfl, SqL.of hcv5, fun D1 hD1 => ?_⟩
          have s6 := s5.trans (Same.new (o := .lst (cutV cv none (some ((n : Nat) : Int)))) hD1)
          have hfl6 := Same.new (o := .lst (cutV cv none (some ((n : Nat) : Int)))) hD1 _ _ hfl4
          have en : ((n : Int) + 1) = ((n + 1 : Nat) : Int) := by omega
          refine ⟨_, rfl, _, rfl, Fl, _, 0, V.int (n : Nat), rfl, rfl, SqL.of hfl6, atI_nat (j := 0) rfl, _, _, rfl, rfl, _, rfl, c, cv, rfl, SqL.of (s6 _ _ hcv), fun D2 hD2 => ?_⟩
          have n12 : D1 ≠ D2 := ne_of_none upd_same hD2
          have s7 := s6.trans (Same.new (o := .lst (cutV cv (some ((n : Int) + 1)) none)) hD2)
          have c1 : cutV cv none (some ((n : Nat) : Int)) = cv.take n := cutV_to cv n
          have c2 : cutV cv (some ((n : Int) + 1)) none = cv.drop (n + 1) := by rw [en, cutV_from]
          refine ⟨D1, D2, cv.take n, cv.drop (n + 1), rfl, rfl, by rw [upd_ne n12, upd_same]; exact congrArg _ (congrArg _ c1), by rw [upd_same]; exact congrArg _ (congrArg _ c2), smallLe (by rw [List.length_take, List.length_drop]; omega), fun D3 hD3 => ?_⟩
          have s8 := s7.trans (Same.new (o := .lst (cv.take n ++ cv.drop (n + 1))) hD3)
          refine ⟨s1.trans s8, D3, _, qs.take n ++ qs.drop (n + 1), _, _, _, rfl, upd_same, ((hq.keep (Keep.of s8)).take n).app ((hq.keep (Keep.of s8)).drop (n + 1)), fun q h => ?_, ?_⟩
          · rcases List.mem_append.mp h with h | h
            · exact hsub q (List.mem_of_mem_take h)
            · exact hsub q (List.mem_of_mem_drop h)
          · rw [List.length_append, List.length_take, List.length_drop]
            omega
    · obtain ⟨s1, c, cv, qs, a1, a2, a3, rfl, hcv, hq, hsub, hle⟩ := h
      exact ⟨_, rfl, k c _ cv qs s1 hcv hq hsub hle⟩
end
end Lat

/-! D22: the law's simple polygon. -/
namespace Lat
open PySem PySem.Spec PyProof.Rows L2 Geo Gx
/-- where the simple polygon's points lie -/
def Sq (n : Int) (p : Pt) : Prop := 0 ≤ p.1 ∧ p.1 ≤ n ∧ -6 ≤ p.2 ∧ p.2 ≤ 6
theorem Sq.up {m n : Int} {p : Pt} (h : Sq m p) (q : m ≤ n) : Sq n p := by unfold Sq at *; omega
section
variable {P : Program} {w : World} {K : PySem.W.Frag} {mg : Str → Option Value} {base : Heap}
theorem scSimple : FnScope ["_law_draws_here", "_law_most", "_law_x", "_law_below", "_law_above", "_law_turn_here"] ["_law_draws_here", "_law_most"] (defScope sSimple) := ⟨rfl, rfl, rfl, by decide +kernel, rfl, by decide +kernel, by decide +kernel⟩
def spSimple : Sp := fun vs H Q _ => ∃ d, vs = [.ref d, .int 3] ∧ Drw H d ∧ ∀ D H' ys qs, But d H H' → Drw H' d → H' D = some (.lst ys) → TPs H' ys qs → (∀ q ∈ qs, Sq 18 q) → qs.length ≤ 8 → Q (.ref D) H'
theorem ok_simple {f : Addr} {fd : FuncData} (F : Fun K "_law_simple" "_law_simple" sSimple f fd) (C1 : Cal P w K mg base 1 "_law_draw" ["_law_draws_here", "_law_upto"] spDraw) (C2 : Cal P w K mg base 2 "_law_cleaned" ["_law_corners"] spClean) (m1 : mg "range" = none) : FnOk P w K mg base CX0 3 f fd ["_law_draws_here", "_law_most"] spSimple := by
  refine F.ok scSimple (fun vs H Q E h => ?_) (fun cdv A outer s H vs Q E hr h => ?_)
  · obtain ⟨_, rfl, _⟩ := h; rfl
  · obtain ⟨d, rfl, hd, k⟩ := h
    have hr1 := hr.mono (show 1 ≤ 2 by decide)
    refine ⟨_, pss_cons (ps_par3 (i := 2) (j := 3) (l := 4) (by rfl) scSimple.nd rfl rfl rfl (by decide) (by decide) (by decide) rfl rfl rfl (pa_cons pe_int (pa_cons (pe_lst pa_nil) (pa_cons (pe_lst pa_nil) pa_nil))) (by rfl))
      (pss_cons (ps_for PassesOwn.never rfl (pi_range1 rfl m1 (pa_cons (pe_op op_add pe_int (pe_cal C1 hr1 rfl (pa_cons (pv 0) (pa_cons (pv 1) pa_nil)))) pa_nil)) (pg_name (i := 5) scSimple.nd rfl (Or.inl rfl))
        (pss_cons (ps_set (i := 2) scSimple.nd rfl (Or.inl rfl) (pe_op op_add (pe_op op_add (pv 2) pe_int) (pe_cal C1 hr1 rfl (pa_cons (pv 0) (pa_cons pe_int pa_nil)))))
        (pss_cons (ps_expr (pe_bm PySem.F.plainAttrs_list PySem.F.slot_list_append PySem.F.type_list_append mt_append (pv 3) (pa_cons (pe_tup (pa_cons (pv 2) (pa_cons (pe_op op_sub (pe_un un_neg pe_int) (pe_cal C1 hr1 rfl (pa_cons (pv 0) (pa_cons pe_int pa_nil)))) pa_nil))) pa_nil)))
        (pss_one (ps_if (pt_cmpR op_eq (pe_cal C1 hr1 rfl (pa_cons (pv 0) (pa_cons pe_int pa_nil))) pe_int (nomark _))
          (pss_cons (ps_set (i := 2) scSimple.nd rfl (Or.inl rfl) (pe_op op_add (pv 2) (pe_cal C1 hr1 rfl (pa_cons (pv 0) (pa_cons pe_int pa_nil)))))
          (pss_one (ps_expr (pe_bm PySem.F.plainAttrs_list PySem.F.slot_list_append PySem.F.type_list_append mt_append (pv 4) (pa_cons (pe_tup (pa_cons (pv 2) (pa_cons (pe_op op_add pe_int (pe_cal C1 hr1 rfl (pa_cons (pv 0) (pa_cons pe_int pa_nil)))) pa_nil))) pa_nil))))) pss_nil)))))
      (pss_one (ps_ret (pe_cal C2 hr rfl (pa_cons (pe_op op_cat (pe_op op_cat (pe_op op_cat (pe_lst (pa_cons (pe_tup (pa_cons pe_int (pa_cons pe_int pa_nil))) pa_nil)) (pv 3)) (pe_lst (pa_cons (pe_tup (pa_cons (pe_op op_add (pe_op op_add (pv 2) pe_int) (pe_cal C1 hr1 rfl (pa_cons (pv 0) (pa_cons pe_int pa_nil)))) (pa_cons pe_int pa_nil))) pa_nil))) (pe_revL (pv 4))) pa_nil))))), ?_⟩
    refine ⟨Nat.zero_le _, fun Bl hBl => ⟨Nat.zero_le _, fun Ab hAb => ⟨_, _, _, rfl, ?_⟩⟩⟩
    have sB : Same H (upd H Bl (.lst [])) := Same.new hBl
    have sA := sB.trans (Same.new (o := .lst []) hAb)
    have hAb0 : H Ab = none := sB.free hAb
    have nBA : Bl ≠ Ab := ne_of_none upd_same hAb
    have hBv : (upd (upd H Bl (.lst [])) Ab (.lst [])) Bl = some (.lst []) := by rw [upd_ne nBA, upd_same]
    have hAv : (upd (upd H Bl (.lst [])) Ab (.lst [])) Ab = some (.lst []) := upd_same
    generalize upd (upd H Bl (.lst [])) Ab (.lst []) = H0 at *
    have nd : ∀ {c : Addr}, H c = none → c ≠ d := fun {c} hc z => by
      obtain ⟨xs, e⟩ := hd.lst
      rw [← z, hc] at e
      cases e
    have nBd := nd hBl
    have nAd := nd hAb0
    refine ⟨_, rfl, _, rfl, d, 3, rfl, hd.same sA, by decide, by decide, fun r H1 hr3 b1 hd1 => ⟨_, _, rfl, rfl, ?_⟩⟩
    have hub : (1 : Int) + (r : Nat) ≤ 3 := by omega
    refine ⟨_, rfl, by omega, by omega, for_range (lo := 0) (n := ((1 : Int) + (r : Nat)).toNat) (fun i σ H' => But d H H' ∧ Drw H' d ∧ ∃ x : Int, ∃ bv av bq aq a5, σ = [some (.ref d), some (.int 3), some (.int x), some (.ref Bl), some (.ref Ab), a5] ∧ H' Bl = some (.lst bv) ∧ H' Ab = some (.lst av) ∧ TPs H' bv bq ∧ TPs H' av aq ∧ bq.length ≤ i ∧ aq.length ≤ i ∧ 0 ≤ x ∧ x ≤ 5 * i ∧ (∀ p ∈ bq, Sq 15 p) ∧ ∀ p ∈ aq, Sq 15 p)
      ⟨(But.of sA).trans b1, hd1, 0, [], [], [], [], _, rfl, b1 _ _ nBd hBv, b1 _ _ nAd hAv, .nil, .nil, Nat.le_refl _, Nat.le_refl _, by omega, by omega, (fun p h => nomatch h), (fun p h => nomatch h)⟩ ?_ (fun σ H' h => ?_)⟩
    · rintro i σ H' hi ⟨b2, hd2, x, bv, av, bq, aq, a5, rfl, hbv, hav, hbt, hat, hbl, hal, hx0, hx5, hbs, has⟩
      have hi3 : i < 3 := by omega
      have ebl := hbt.len
      have eal := hat.len
      refine ⟨_, rfl, _, _, rfl, rfl, _, rfl, d, 3, rfl, hd2, by decide, by decide, fun u H2 hu b3 hd3 => ⟨_, _, rfl, rfl, ?_⟩⟩
      have hbv2 := b3 _ _ nBd hbv
      have hav2 := b3 _ _ nAd hav
      have k2 := Keep.but hd2 b3
      refine ⟨_, rfl, .inl ⟨rfl, _, SqL.of hbv2⟩, _, rfl, _, rfl, _, rfl, d, 6, rfl, hd3, by decide, by decide, fun y H3 hy b4 hd4 => ⟨_, _, rfl, rfl, by show 2 ≤ sizeLine; decide, fun t ht => ?_⟩⟩
      have k3 := Keep.but hd3 b4
      have st : Same H3 (upd H3 t (.tup [.int (x + 1 + (u : Nat)), .int (-1 - (y : Nat))])) := Same.new ht
      have hbv3 := st _ _ (b4 _ _ nBd hbv2)
      have hav3 := st _ _ (b4 _ _ nAd hav2)
      have kB : Keep (upd H3 t (.tup [.int (x + 1 + (u : Nat)), .int (-1 - (y : Nat))])) (upd (upd H3 t (.tup [.int (x + 1 + (u : Nat)), .int (-1 - (y : Nat))])) Bl (.lst (bv ++ [.ref t]))) := Keep.lst hbv3
      refine ⟨Bl, bv, .ref t, rfl, rfl, hbv3, smallLine (by omega), ?_⟩
      have kk := ((k2.trans k3).trans (Keep.of st)).trans kB
      have hbt4 := (hbt.keep kk).snoc (p := (x + 1 + ((u : Nat) : Int), -1 - ((y : Nat) : Int))) ⟨t, rfl, by rw [upd_ne (ne_of upd_same hbv3 (fun z => nomatch z)), upd_same]⟩
      have hat4 := hat.keep kk
      have b5 : But d H (upd (upd H3 t (.tup [.int (x + 1 + (u : Nat)), .int (-1 - (y : Nat))])) Bl (.lst (bv ++ [.ref t]))) := But.over (((b2.trans b3).trans b4).trans (But.of st)) hBl
      have hd5 : Drw (upd (upd H3 t (.tup [.int (x + 1 + (u : Nat)), .int (-1 - (y : Nat))])) Bl (.lst (bv ++ [.ref t]))) d := by
        obtain ⟨x4, z4, e4, r4⟩ := hd4
        exact ⟨x4, z4, by rw [upd_ne (Ne.symm nBd)]; exact st _ _ e4, r4⟩
      have hbv5 : (upd (upd H3 t (.tup [.int (x + 1 + (u : Nat)), .int (-1 - (y : Nat))])) Bl (.lst (bv ++ [.ref t]))) Bl = some (.lst (bv ++ [.ref t])) := upd_same
      have hav5 : (upd (upd H3 t (.tup [.int (x + 1 + (u : Nat)), .int (-1 - (y : Nat))])) Bl (.lst (bv ++ [.ref t]))) Ab = some (.lst av) := by rw [upd_ne (Ne.symm nBA)]; exact hav3
      generalize upd (upd H3 t (.tup [.int (x + 1 + (u : Nat)), .int (-1 - (y : Nat))])) Bl (.lst (bv ++ [.ref t])) = H4 at *
      have hbs4 : ∀ p ∈ bq ++ [(x + 1 + ((u : Nat) : Int), -1 - ((y : Nat) : Int))], Sq 15 p := fun p hp => by
        rcases List.mem_append.mp hp with z | z
        · exact hbs p z
        · rw [List.mem_singleton.mp z]
          unfold Sq; simp only; omega
      have hbl4 : (bq ++ [(x + 1 + ((u : Nat) : Int), -1 - ((y : Nat) : Int))]).length ≤ i + 1 := by rw [List.length_append, List.length_singleton]; omega
      refine ⟨_, rfl, d, 2, rfl, hd5, by decide, by decide, fun c H5 hc b6 hd6 => ⟨rfl, _, rfl, ?_⟩⟩
      have hbv6 := b6 _ _ nBd hbv5
      have hav6 := b6 _ _ nAd hav5
      have k6 := Keep.but hd5 b6
      refine ite2 (fun wz => ?_) (fun wz => ?_)
      · refine ⟨_, rfl, _, rfl, d, 3, rfl, hd6, by decide, by decide, fun v H6 hv b7 hd7 => ⟨_, _, rfl, rfl, ?_⟩⟩
        have hbv7 := b7 _ _ nBd hbv6
        have hav7 := b7 _ _ nAd hav6
        have k7 := Keep.but hd6 b7
        refine ⟨_, rfl, .inl ⟨rfl, _, SqL.of hav7⟩, _, rfl, _, rfl, d, 6, rfl, hd7, by decide, by decide, fun y2 H7 hy2 b8 hd8 => ⟨_, _, rfl, rfl, by show 2 ≤ sizeLine; decide, fun t2 ht2 => ?_⟩⟩
        have k8 := Keep.but hd7 b8
        have st2 : Same H7 (upd H7 t2 (.tup [.int (x + 1 + (u : Nat) + (v : Nat)), .int (1 + (y2 : Nat))])) := Same.new ht2
        have hbv8 := st2 _ _ (b8 _ _ nBd hbv7)
        have hav8 := st2 _ _ (b8 _ _ nAd hav7)
        have kA : Keep (upd H7 t2 (.tup [.int (x + 1 + (u : Nat) + (v : Nat)), .int (1 + (y2 : Nat))])) (upd (upd H7 t2 (.tup [.int (x + 1 + (u : Nat) + (v : Nat)), .int (1 + (y2 : Nat))])) Ab (.lst (av ++ [.ref t2]))) := Keep.lst hav8
        have kz := (((k6.trans k7).trans k8).trans (Keep.of st2)).trans kA
        refine ⟨Ab, av, .ref t2, rfl, rfl, hav8, smallLine (by omega), ?_⟩
        refine ⟨But.over ((((b5.trans b6).trans b7).trans b8).trans (But.of st2)) hAb0, ?_, x + 1 + (u : Nat) + (v : Nat), _, _, _, aq ++ [(x + 1 + ((u : Nat) : Int) + ((v : Nat) : Int), 1 + ((y2 : Nat) : Int))], _, rfl, by rw [upd_ne nBA]; exact hbv8, upd_same, hbt4.keep kz, (hat4.keep kz).snoc ⟨t2, rfl, by rw [upd_ne (ne_of upd_same hav8 (fun z => nomatch z)), upd_same]⟩, hbl4, by rw [List.length_append, List.length_singleton]; omega, by omega, by omega, hbs4, fun p hp => ?_⟩
        · obtain ⟨x4, z4, e4, r4⟩ := hd8
          exact ⟨x4, z4, by rw [upd_ne (Ne.symm nAd)]; exact st2 _ _ e4, r4⟩
        · rcases List.mem_append.mp hp with z | z
          · exact has p z
          · rw [List.mem_singleton.mp z]
            unfold Sq; simp only; omega
      · exact ⟨b5.trans b6, hd6, x + 1 + (u : Nat), _, _, _, _, _, rfl, hbv6, hav6, hbt4.keep k6, hat4.keep k6, hbl4, by omega, by omega, by omega, hbs4, has⟩
    · obtain ⟨b2, hd2, x, bv, av, bq, aq, a5, rfl, hbv, hav, hbt, hat, hbl, hal, hx0, hx5, hbs, has⟩ := h
      have ebl := hbt.len
      have eal := hat.len
      have hx15 : x ≤ 15 := by omega
      -- [(0, 0)] + below
      refine ⟨by show 2 ≤ sizeLine; decide, fun t1 ht1 => ⟨by show 1 ≤ sizeLine; decide, fun L1 hL1 => ⟨_, rfl, ?_⟩⟩⟩
      have c1 : Same H' (upd H' t1 (.tup [.int 0, .int 0])) := Same.new ht1
      have c2 := c1.trans (Same.new (o := .lst [.ref t1]) hL1)
      have q1 : TP (upd (upd H' t1 (.tup [.int 0, .int 0])) L1 (.lst [.ref t1])) (.ref t1) (0, 0) := ⟨t1, rfl, Same.new hL1 _ _ upd_same⟩
      refine ⟨L1, Bl, [.ref t1], bv, rfl, rfl, upd_same, c2 _ _ hbv, smallLe (by simp; omega), fun L2 hL2 => ?_⟩
      have s2 := Same.new (o := .lst ([.ref t1] ++ bv)) hL2
      have c3 := c2.trans s2
      have p2 : TPs (upd (upd (upd H' t1 (.tup [.int 0, .int 0])) L1 (.lst [.ref t1])) L2 (.lst ([.ref t1] ++ bv))) ([.ref t1] ++ bv) ([(0, 0)] ++ bq) := (TPs.cons (q1.keep (Keep.of s2)) .nil).app (hbt.keep (Keep.of c3))
      have h2 : (upd (upd (upd H' t1 (.tup [.int 0, .int 0])) L1 (.lst [.ref t1])) L2 (.lst ([.ref t1] ++ bv))) L2 = some (.lst ([.ref t1] ++ bv)) := upd_same
      generalize upd (upd (upd H' t1 (.tup [.int 0, .int 0])) L1 (.lst [.ref t1])) L2 (.lst ([.ref t1] ++ bv)) = H2 at *
      -- + [(x + 1 + draw, 0)]
      have hd3 := hd2.same c3
      refine ⟨_, rfl, _, _, rfl, rfl, _, rfl, d, 3, rfl, hd3, by decide, by decide, fun u H3 hu b4 hd4 => ⟨_, _, rfl, rfl, by show 2 ≤ sizeLine; decide, fun t2 ht2 => ⟨by show 1 ≤ sizeLine; decide, fun L3 hL3 => ?_⟩⟩⟩
      have nL2d : L2 ≠ d := fun z => by
        rw [z] at hL2
        obtain ⟨xs, e⟩ := (hd2.same c2).lst
        rw [e] at hL2
        cases hL2
      have k4 := Keep.but hd3 b4
      have s5 : Same H3 (upd H3 t2 (.tup [.int (x + 1 + (u : Nat)), .int 0])) := Same.new ht2
      have s6 := s5.trans (Same.new (o := .lst [.ref t2]) hL3)
      have q2 : TP (upd (upd H3 t2 (.tup [.int (x + 1 + (u : Nat)), .int 0])) L3 (.lst [.ref t2])) (.ref t2) (x + 1 + ((u : Nat) : Int), (0 : Int)) := ⟨t2, rfl, Same.new hL3 _ _ upd_same⟩
      refine ⟨L2, L3, _, [.ref t2], rfl, rfl, s6 _ _ (b4 _ _ nL2d h2), upd_same, smallLe (by simp; omega), fun L4 hL4 => ?_⟩
      have s7 := Same.new (o := .lst (([.ref t1] ++ bv) ++ [.ref t2])) hL4
      have s8 := s6.trans s7
      have p4 : TPs (upd (upd (upd H3 t2 (.tup [.int (x + 1 + (u : Nat)), .int 0])) L3 (.lst [.ref t2])) L4 (.lst (([.ref t1] ++ bv) ++ [.ref t2]))) (([.ref t1] ++ bv) ++ [.ref t2]) (([(0, 0)] ++ bq) ++ [(x + 1 + ((u : Nat) : Int), (0 : Int))]) := (p2.keep (k4.trans (Keep.of s8))).app (.cons (q2.keep (Keep.of s7)) .nil)
      have h4 : (upd (upd (upd H3 t2 (.tup [.int (x + 1 + (u : Nat)), .int 0])) L3 (.lst [.ref t2])) L4 (.lst (([.ref t1] ++ bv) ++ [.ref t2]))) L4 = some (.lst (([.ref t1] ++ bv) ++ [.ref t2])) := upd_same
      generalize upd (upd (upd H3 t2 (.tup [.int (x + 1 + (u : Nat)), .int 0])) L3 (.lst [.ref t2])) L4 (.lst (([.ref t1] ++ bv) ++ [.ref t2])) = H4 at *
      -- + above[::-1]
      have hav4 := s8 _ _ (b4 _ _ nAd (c3 _ _ hav))
      refine ⟨_, rfl, Ab, av, rfl, SqL.of hav4, fun L5 hL5 => ?_⟩
      have s9 := Same.new (o := .lst av.reverse) hL5
      refine ⟨L4, L5, _, av.reverse, rfl, rfl, s9 _ _ h4, upd_same, smallLe (by simp; omega), fun L6 hL6 => ?_⟩
      have s10 := s9.trans (Same.new (o := .lst ((([.ref t1] ++ bv) ++ [.ref t2]) ++ av.reverse)) hL6)
      have ka : Keep H' (upd (upd H4 L5 (.lst av.reverse)) L6 (.lst ((([.ref t1] ++ bv) ++ [.ref t2]) ++ av.reverse))) := (((Keep.of c3).trans k4).trans (Keep.of s8)).trans (Keep.of s10)
      have pall := (p4.keep (Keep.of s10)).app ((hat.keep ka).rev)
      have hall : ∀ p ∈ (([(0, 0)] ++ bq) ++ [(x + 1 + ((u : Nat) : Int), (0 : Int))]) ++ aq.reverse, Sq 18 p := fun p hp => by
        rcases List.mem_append.mp hp with z | z
        · rcases List.mem_append.mp z with z | z
          · rcases List.mem_append.mp z with z | z
            · rw [List.mem_singleton.mp z]
              unfold Sq; decide
            · exact (hbs p z).up (by decide)
          · rw [List.mem_singleton.mp z]
            unfold Sq; simp only; omega
        · exact (has p (List.mem_reverse.mp z)).up (by decide)
      refine ⟨L6, _, _, rfl, upd_same, pall, by simp; omega, fun p hp => ?_, fun D H9 ys qs s11 hys htp hsub hle => ?_⟩
      · have h := hall p hp
        unfold Sq at h
        unfold Bd
        omega
      · have b12 : But d H H9 := (((b2.trans (But.of c3)).trans b4).trans (But.of s8)).trans ((But.of s10).trans (But.of s11))
        refine k D H9 ys qs b12 (((hd4.same s8).same s10).same s11) hys htp (fun q hq => hall q (hsub q hq)) ?_
        simp at hle
        omega
end
end Lat

/-! D23: the law. -/
namespace Lat
open PySem PySem.Spec PyProof.Rows L2 Geo Gx
abbrev sLaw : Stmt := top 55
theorem good_cv {cs o : List Pt} (G : Good cs o) (hb : ∀ p ∈ o, Bd 100 p) (hl : o.length ≤ 31) : Cv cs :=
  ⟨G.three, by have := G.most; omega, G.left, fun i hi => hb _ (G.sub _ (at_mem hi))⟩
theorem Same.but {H H1 H2 : Hp} {d : Addr} (s : Same H H1) (n : H d = none) (b : But d H1 H2) : Same H H2 := fun x u e => b x u (fun (z : x = d) => by rw [z, n] at e; cases e) (s x u e)
/-- (M, ds) as data -/
def resD (M : Int) (ds : List Pt) : PyData := .tuple [.int M, .list (ds.map dP)]
theorem resD_shaped (M : Int) (ds : List Pt) : SeqAt.shaped (resD M ds) = true := by
  have h := dP_depth ds
  have l := dP_lay ds
  unfold SeqAt.shaped
  rw [Bool.and_eq_true]
  refine ⟨?_, decide_eq_true ?_⟩
  · unfold resD
    simp only [PyData.canLay0, PyData.canLayAll0, l, Bool.and_true]
  · unfold resD
    simp only [PyData.depth, PyData.depthAll]
    omega
theorem resD_dp {K : PySem.W.Frag} {H : Hp} {D L : Addr} {M : Int} {vs : List V} {ds : List Pt} (h1 : H D = some (.tup [.int M, .ref L])) (h2 : H L = some (.lst vs)) (h3 : TPs H vs ds) : Dp K H (.ref D) (resD M ds) :=
  .tup (SqT.of h1) (.cons (.int M) (.cons (.lst (SqL.of h2) h3.dp) .nil))
theorem nz10 : Nz (1, 0) := by unfold Nz Lx; decide
theorem nz01 : Nz (0, 1) := by unfold Nz Lx; decide
theorem W10 {cs : List Pt} (hne : cs ≠ []) {A B : Int} (h : ∀ p ∈ cs, A ≤ p.1 ∧ p.1 ≤ B) : W cs (1, 0) ≤ B - A := by
  obtain ⟨c, hc, c', hc', e⟩ := W_at hne (1, 0)
  have h1 := h c hc
  have h2 := h c' hc'
  rw [e]
  unfold dt
  simp only
  omega
theorem W01 {cs : List Pt} (hne : cs ≠ []) {A B : Int} (h : ∀ p ∈ cs, A ≤ p.2 ∧ p.2 ≤ B) : W cs (0, 1) ≤ B - A := by
  obtain ⟨c, hc, c', hc', e⟩ := W_at hne (0, 1)
  have h1 := h c hc
  have h2 := h c' hc'
  rw [e]
  unfold dt
  simp only
  omega
/-- the class's making -/
structure PoM (P : Program) (w : World) (K : PySem.W.Frag) (mg : Str → Option Value) (base : Heap) (C : Addr) : Prop where
  ex : ∃ f fd, Mk K C f ∧ FnOk P w K mg base CX0 7 f fd ["self", "corners"] (spPolyInit C) ∧ Binds K fd ["self", "corners"] []
section
variable {P : Program} {w : World} {K : PySem.W.Frag} {mg : Str → Option Value} {base : Heap} {C : Addr}
abbrev nmL : List Str := ["_law_script", "_law_k", "_law_draws_here", "_law_corners", "_law_polygon", "_law_most", "_law_simple_here", "_law_hull_here", "_law_width", "_law_directions", "_law_x", "_law_y"]
theorem scLaw : FnScope nmL ["_law_script"] (defScope sLaw) := ⟨rfl, rfl, rfl, by decide +kernel, rfl, by decide +kernel, by decide +kernel⟩
def spLaw (K : PySem.W.Frag) : Sp := fun vs H Q _ => ∃ (a : Addr) (ns : List Int), vs = [.ref a] ∧ SqL K H a (ns.map V.int) ∧ ns.length ≤ 63 ∧ ∀ H', Q (.bl true) H'
/-- what a made polygon gives -/
theorem made_poly {H H1 : Hp} {x dx : Addr} (nx : H x = none) (ndx : H dx = none) (b : ∀ b o, b ≠ x → (upd (upd H dx (.own x)) x (.ins C dx [])) b = some o → H1 b = some o) : Same H H1 := fun y o e => by
  have e1 : y ≠ x := ne_of_none e nx
  have e2 : y ≠ dx := ne_of_none e ndx
  refine b y o e1 ?_
  rw [upd_ne e1, upd_ne e2]
  exact e
theorem made_same {H : Hp} {x dx : Addr} (nx : H x = none) (ndx : H dx = none) : Same H (upd (upd H dx (.own x)) x (.ins C dx [])) := fun y o e => by
  rw [upd_ne (ne_of_none e nx), upd_ne (ne_of_none e ndx)]
  exact e
theorem ok_law {f : Addr} {fd : FuncData} (F : Fun K "law" "law" sLaw f fd) (T : PoT K mg C) (M : PoM P w K mg base C) (C1 : Cal P w K mg base 1 "_law_draws" ["_law_script", "_law_k"] (spDraws K)) (C2 : Cal P w K mg base 3 "_law_convex" ["_law_draws_here", "_law_most", "_law_wide"] spConvex)
    (C3 : Cal P w K mg base 4 "width_in" ["polygon", "direction"] (spWIn C)) (C4 : Cal P w K mg base 5 "least_width" ["polygon"] (spLW C)) (C5 : Cal P w K mg base 2 "_law_expected" ["_law_corners", "_law_most"] spExp) (C6 : Cal P w K mg base 3 "_law_simple" ["_law_draws_here", "_law_most"] spSimple)
    (C7 : Cal P w K mg base 2 "_law_hull" ["_law_points"] spHull) (m1 : mg "range" = none) (m2 : mg "max" = none) (m3 : mg "min" = none) (m4 : mg "len" = none) : FnOk P w K mg base CX0 9 f fd ["_law_script"] (spLaw K) := by
  obtain ⟨fi, fdi, mk, GI, bI⟩ := M.ex
  refine F.ok scLaw (fun vs H Q E h => ?_) (fun cdv A outer s H vs Q E hr h => ?_)
  · obtain ⟨_, _, rfl, _⟩ := h; rfl
  · obtain ⟨a, ns, rfl, hs, hlen, k⟩ := h
    have hr1 := hr.mono (show 1 ≤ 8 by decide)
    have hr2 := hr.mono (show 2 ≤ 8 by decide)
    have hr3 := hr.mono (show 3 ≤ 8 by decide)
    have hr4 := hr.mono (show 4 ≤ 8 by decide)
    have hr5 := hr.mono (show 5 ≤ 8 by decide)
    refine ⟨_, pss_cons (ps_for PassesOwn.never rfl (pi_range1 rfl m1 (pa_cons (pe_callB (call_max2 rfl) (by rfl) m2 (by decide +kernel) (pa_cons pe_int (pa_cons (pe_callB (call_min2 rfl) (by rfl) m3 (by decide +kernel) (pa_cons pe_int (pa_cons (pe_callB call_len_seq (by rfl) m4 PySem.boot_len (pa_cons (pv 0) pa_nil)) pa_nil))) pa_nil))) pa_nil)) (pg_name (i := 1) scLaw.nd rfl (Or.inl rfl))
        (pss_cons (ps_set (i := 2) scLaw.nd rfl (Or.inl rfl) (pe_cal C1 hr1 rfl (pa_cons (pv 0) (pa_cons (pv 1) pa_nil))))
        (pss_cons (ps_set (i := 3) scLaw.nd rfl (Or.inl rfl) (pe_cal C2 hr3 rfl (pa_cons (pv 2) (pa_cons pe_int (pa_cons pe_int pa_nil)))))
        (pss_cons (ps_set (i := 4) scLaw.nd rfl (Or.inl rfl) (pe_make mk GI hr rfl T.mgC bI .nil pass0 (pa_cons (pv 3) pa_nil)))
        (pss_cons (ps_set (i := 5) scLaw.nd rfl (Or.inl rfl) (pe_callB (call_min2 rfl) (by rfl) m3 (by decide +kernel) (pa_cons (pe_cal C3 hr4 rfl (pa_cons (pv 4) (pa_cons (pe_tup (pa_cons pe_int (pa_cons pe_int pa_nil))) pa_nil))) (pa_cons (pe_cal C3 hr4 rfl (pa_cons (pv 4) (pa_cons (pe_tup (pa_cons pe_int (pa_cons pe_int pa_nil))) pa_nil))) pa_nil))))
        (pss_cons (ps_if (pt_cmpR (op_neD hr.units) (pe_cal C4 hr5 rfl (pa_cons (pv 4) pa_nil)) (pe_cal C5 hr2 rfl (pa_cons (pv 3) (pa_cons (pv 5) pa_nil))) (nomark _)) (pss_one ps_never) pss_nil)
        (pss_cons (ps_set (i := 6) scLaw.nd rfl (Or.inl rfl) (pe_op op_cat (pe_lst (pa_cons (pe_tup (pa_cons pe_int (pa_cons pe_int pa_nil))) (pa_cons (pe_tup (pa_cons pe_int (pa_cons pe_int pa_nil))) (pa_cons (pe_tup (pa_cons pe_int (pa_cons pe_int pa_nil))) pa_nil)))) (pe_cal C6 hr3 rfl (pa_cons (pv 2) (pa_cons pe_int pa_nil)))))
        (pss_cons (ps_set (i := 7) scLaw.nd rfl (Or.inl rfl) (pe_cal C7 hr2 rfl (pa_cons (pv 6) pa_nil)))
        (pss_cons (ps_set (i := 5) scLaw.nd rfl (Or.inl rfl) (pe_callB (call_min2 rfl) (by rfl) m3 (by decide +kernel) (pa_cons (pe_callB (cr_max rfl) (by rfl) m2 (by decide +kernel) (pa_cons (pe_lc (own := [("_law_x", 10), ("_law_y", 11)]) (tt := tYes) rfl scLaw.nd (pi_list (pv 7)) (blkOk_by (own := [("_law_x", 10), ("_law_y", 11)]) (N := nmL) (sc := defScope sLaw) (by decide +kernel))
              (fun _ _ _ _ _ => pg_tupK 2 K rfl (pgs_cons (pg_name (i := 10) scLaw.nd rfl (Or.inl rfl)) (pgs_cons (pg_name (i := 11) scLaw.nd rfl (Or.inl rfl)) pgs_nil))) (fun _ _ _ _ _ => pts_nil) (fun _ _ _ _ _ => pv 10)) pa_nil)) (pa_cons pe_int pa_nil))))
        (pss_cons (ps_asg (pe_cal C4 hr5 rfl (pa_cons (pe_make mk GI hr rfl T.mgC bI .nil pass0 (pa_cons (pv 7) pa_nil)) pa_nil)) (pg_tup rfl (pgs_cons (pg_name (i := 8) scLaw.nd rfl (Or.inl rfl)) (pgs_cons (pg_name (i := 9) scLaw.nd rfl (Or.inl rfl)) pgs_nil))))
        (pss_one (ps_if (pt_cmpR (op_neD hr.units) (pe_tup (pa_cons (pv 8) (pa_cons (pv 9) pa_nil))) (pe_cal C5 hr2 rfl (pa_cons (pv 7) (pa_cons (pe_callB (call_min2 rfl) (by rfl) m3 (by decide +kernel) (pa_cons (pv 5) (pa_cons (pe_cal C3 hr4 rfl (pa_cons (pe_make mk GI hr rfl T.mgC bI .nil pass0 (pa_cons (pv 7) pa_nil)) (pa_cons (pe_tup (pa_cons pe_int (pa_cons pe_int pa_nil))) pa_nil))) pa_nil))) pa_nil))) (nomark _)) (pss_one ps_never) pss_nil))))))))))))
      (pss_one (ps_ret pe_bl)), ?_⟩
    have hN8 : (if (if ((ns.map V.int).length : Int) < 8 then ((ns.map V.int).length : Int) else 8) > 1 then (if ((ns.map V.int).length : Int) < 8 then ((ns.map V.int).length : Int) else 8) else 1) ≤ 8 ∧ 1 ≤ (if (if ((ns.map V.int).length : Int) < 8 then ((ns.map V.int).length : Int) else 8) > 1 then (if ((ns.map V.int).length : Int) < 8 then ((ns.map V.int).length : Int) else 8) else 1) := by
      constructor
      · split <;> split <;> omega
      · split <;> omega
    refine ⟨_, rfl, a, _, rfl, .inl hs, _, _, rfl, _, _, rfl, _, rfl, by omega, by omega, for_range (lo := 0) (n := (if (if ((ns.map V.int).length : Int) < 8 then ((ns.map V.int).length : Int) else 8) > 1 then (if ((ns.map V.int).length : Int) < 8 then ((ns.map V.int).length : Int) else 8) else 1).toNat) (fun _ σ H' => Same H H' ∧ ∃ a1 a2 a3 a4 a5 a6 a7 a8 a9 a10 a11, σ = [some (.ref a), a1, a2, a3, a4, a5, a6, a7, a8, a9, a10, a11])
      ⟨Same.refl _, _, _, _, _, _, _, _, _, _, _, _, rfl⟩ ?_ (fun σ H' h => k _)⟩
    rintro i σ H0 hi ⟨s0, a1, a2, a3, a4, a5, a6, a7, a8, a9, a10, a11, rfl⟩
    have hi8 : i ≤ 8 := by omega
    have e0 : (0 : Int) + (i : Nat) = (i : Int) := by omega
    rw [e0]
    -- the draws and the convex polygon
    refine ⟨_, rfl, _, rfl, a, ns, i, rfl, Same.seq s0 hs, by omega, fun d H1 t1 hdn hdw => ?_⟩
    have hd0 : H d = none := s0.free hdn
    have s1 := s0.trans t1
    refine ⟨_, rfl, d, rfl, hdw, fun c1 H2 ys o b2 hdw2 hc1n hys hasc m00 m10 m01 hb5 ho8 htp => ?_⟩
    have s2 := Same.but s1 hd0 b2
    have G := chain_good hasc m00 m10 m01
    have cvA := good_cv G (fun p hp => (hb5 p hp).up (by decide)) (by omega)
    have hU := G.unit m00 m10 m01
    have hsub5 : ∀ p ∈ chain o, Bd 5 p := fun p hp => hb5 p (G.sub p hp)
    have hne := hU.ne
    clear hasc ho8 hb5
    -- Polygon(corners)
    refine ⟨_, rfl, fun x dx nx ndx nex => ?_⟩
    refine ⟨x, dx, c1, ys, chain o, rfl, upd_same, made_same nx ndx _ _ hys, htp.keep (Keep.of (made_same nx ndx)), cvA, fun kk h1 h2 => G.least kk h1 h2, fun H3 b3 hpoly => ⟨rfl, ?_⟩⟩
    have t3 : Same H2 H3 := made_poly nx ndx b3
    -- the two widths
    refine ⟨_, rfl, by show 2 ≤ sizeLine; decide, fun g1 hg1 => ?_⟩
    have u1 := Same.new (o := .tup [.int 1, .int 0]) hg1
    refine ⟨x, .ref g1, chain o, (1, 0), rfl, hpoly.same u1, cvA, ⟨g1, rfl, upd_same⟩, by decide, fun H4 t4 => ?_⟩
    have w4 := u1.trans t4
    refine ⟨_, rfl, by show 2 ≤ sizeLine; decide, fun g2 hg2 => ?_⟩
    have u2 := Same.new (o := .tup [.int 0, .int 1]) hg2
    refine ⟨x, .ref g2, chain o, (0, 1), rfl, (hpoly.same w4).same u2, cvA, ⟨g2, rfl, upd_same⟩, by decide, fun H5 t5 => ?_⟩
    have w5 := (w4.trans u2).trans t5
    refine ⟨_, _, rfl, ?_⟩
    have wn1 := W_nonneg hne (1, 0)
    have wn2 := W_nonneg hne (0, 1)
    have wb1 := W10 hne (A := -5) (B := 5) (fun p hp => ⟨(hsub5 p hp).1, (hsub5 p hp).2.1⟩)
    have wb2 := W01 hne (A := -5) (B := 5) (fun p hp => ⟨(hsub5 p hp).2.2.1, (hsub5 p hp).2.2.2⟩)
    obtain ⟨m, em, hm20, hcert⟩ : ∃ m : Nat, (if W (chain o) (0, 1) < W (chain o) (1, 0) then W (chain o) (0, 1) else W (chain o) (1, 0)) = (m : Int) ∧ m ≤ 20 ∧ ∃ d, Nz d ∧ W (chain o) d ≤ (m : Int) := by
      by_cases z : W (chain o) (0, 1) < W (chain o) (1, 0)
      · rw [if_pos z]
        exact ⟨(W (chain o) (0, 1)).toNat, by omega, by omega, (0, 1), nz01, by omega⟩
      · rw [if_neg z]
        exact ⟨(W (chain o) (1, 0)).toNat, by omega, by omega, (1, 0), nz10, by omega⟩
    rw [em]
    -- least_width against what is expected
    refine ⟨_, rfl, x, chain o, rfl, hpoly.same w5, cvA, hU, fun D L H6 Mv vs ds hlw t6 hD hL hds => ?_⟩
    have t26 := (t3.trans w5).trans t6
    refine ⟨_, rfl, _, rfl, c1, ys, chain o, m, rfl, t26 _ _ hys, htp.keep (Keep.of t26), cvA, hU, hm20, hcert, fun D' L' H7 M' vs' ds' hlw' t7 hD' hL' hds' => ?_⟩
    obtain ⟨rfl, rfl⟩ := hlw.uniq hlw'
    refine ⟨resD Mv ds, resD Mv ds, resD_dp (t7 _ _ hD) (t7 _ _ hL) (hds.keep (Keep.of t7)), resD_dp hD' hL' hds', resD_shaped _ _, resD_shaped _ _, _, rfl, ?_⟩
    have er : PyData.eqv (resD Mv ds) (resD Mv ds) = true := SeqAt.eqv_refl _ (SeqAt.canLay_of_shaped (resD_shaped _ _))
    rw [er]
    refine iteF ?_
    have t27 := t26.trans t7
    have s7 := s2.trans t27
    have hdw7 := hdw2.same t27
    clear hlw hlw' hD hD' hL hL' hds hds' hpoly hcert em wb1 wb2 wn1 wn2 hU cvA G htp hys hsub5 hne
    -- the points of the simple polygon and the unit triangle
    refine ⟨by show 2 ≤ sizeLine; decide, fun q1 hq1 => ⟨by show 2 ≤ sizeLine; decide, fun q2 hq2 => ⟨by show 2 ≤ sizeLine; decide, fun q3 hq3 => ⟨by show 3 ≤ sizeLine; decide, fun L1 hL1 => ?_⟩⟩⟩⟩
    have z1 : Same H7 (upd H7 q1 (.tup [.int 0, .int 0])) := Same.new hq1
    have z2 : Same _ (upd (upd H7 q1 (.tup [.int 0, .int 0])) q2 (.tup [.int 1, .int 0])) := Same.new hq2
    have z3 : Same _ (upd (upd (upd H7 q1 (.tup [.int 0, .int 0])) q2 (.tup [.int 1, .int 0])) q3 (.tup [.int 0, .int 1])) := Same.new hq3
    have z4 : Same _ (upd (upd (upd (upd H7 q1 (.tup [.int 0, .int 0])) q2 (.tup [.int 1, .int 0])) q3 (.tup [.int 0, .int 1])) L1 (.lst [.ref q1, .ref q2, .ref q3])) := Same.new hL1
    have zz := ((z1.trans z2).trans z3).trans z4
    have p1 : TPs (upd (upd (upd (upd H7 q1 (.tup [.int 0, .int 0])) q2 (.tup [.int 1, .int 0])) q3 (.tup [.int 0, .int 1])) L1 (.lst [.ref q1, .ref q2, .ref q3])) [.ref q1, .ref q2, .ref q3] [(0, 0), (1, 0), (0, 1)] :=
      .cons ⟨q1, rfl, z4 _ _ (z3 _ _ (z2 _ _ upd_same))⟩ (.cons ⟨q2, rfl, z4 _ _ (z3 _ _ upd_same)⟩ (.cons ⟨q3, rfl, z4 _ _ upd_same⟩ .nil))
    have hL1v : (upd (upd (upd (upd H7 q1 (.tup [.int 0, .int 0])) q2 (.tup [.int 1, .int 0])) q3 (.tup [.int 0, .int 1])) L1 (.lst [.ref q1, .ref q2, .ref q3])) L1 = some (.lst [.ref q1, .ref q2, .ref q3]) := upd_same
    have nL1d : L1 ≠ d := fun z => by
      obtain ⟨xs, e⟩ := (hdw7.same ((z1.trans z2).trans z3)).lst
      rw [← z, hL1] at e
      cases e
    clear hq1 hq2 hq3 hL1 z1 z2 z3 z4
    generalize upd (upd (upd (upd H7 q1 (.tup [.int 0, .int 0])) q2 (.tup [.int 1, .int 0])) q3 (.tup [.int 0, .int 1])) L1 (.lst [.ref q1, .ref q2, .ref q3]) = H8 at *
    refine ⟨_, rfl, d, rfl, hdw7.same zz, fun S H9 ysS qs b9 hdw9 hS htq hsq hlq => ?_⟩
    have s9 := Same.but (s7.trans zz) hd0 b9
    have k9 := Keep.but (hdw7.same zz) b9
    have eqs := htq.len
    refine ⟨L1, S, _, ysS, rfl, rfl, b9 _ _ nL1d hL1v, hS, smallLe (by simp; omega), fun L2 hL2 => ?_⟩
    have y1 := Same.new (o := .lst ([.ref q1, .ref q2, .ref q3] ++ ysS)) hL2
    have s10 := s9.trans y1
    have p2 := (p1.keep (k9.trans (Keep.of y1))).app (htq.keep (Keep.of y1))
    have hpt : ∀ p ∈ ([(0, 0), (1, 0), (0, 1)] : List Pt) ++ qs, Sq 18 p := fun p hp => by
      rcases List.mem_append.mp hp with z | z
      · rcases List.mem_cons.mp z with z | z
        · rw [z]; unfold Sq; decide
        · rcases List.mem_cons.mp z with z | z
          · rw [z]; unfold Sq; decide
          · rw [List.mem_singleton.mp z]; unfold Sq; decide
      · exact hsq p z
    -- its hull
    refine ⟨_, rfl, L2, _, _, rfl, upd_same, p2, by simp; omega, fun p hp => ?_, fun c2 H11 ys2 o2 t11 hc2n hys2 hasc2 hmem2 htp2 => ?_⟩
    · have h := hpt p hp
      unfold Sq at h
      unfold Bd
      omega
    have s11 := s10.trans t11
    have n00 : ((0, 0) : Pt) ∈ o2 := (hmem2 _).mpr (List.mem_append_left _ List.mem_cons_self)
    have n10 : ((1, 0) : Pt) ∈ o2 := (hmem2 _).mpr (List.mem_append_left _ (List.mem_cons_of_mem _ List.mem_cons_self))
    have n01 : ((0, 1) : Pt) ∈ o2 := (hmem2 _).mpr (List.mem_append_left _ (List.mem_cons_of_mem _ (List.mem_cons_of_mem _ List.mem_cons_self)))
    have ho2 : o2.length ≤ 11 := by
      have h := nd_len (asc_nd hasc2) (fun x hx => (hmem2 x).mp hx)
      simp at h
      omega
    have hsqo : ∀ p ∈ o2, Sq 18 p := fun p hp => hpt p ((hmem2 p).mp hp)
    have G2 := chain_good hasc2 n00 n10 n01
    have cv2 := good_cv G2 (fun p hp => by have h := hsqo p hp; unfold Sq at h; unfold Bd; omega) (by omega)
    have hU2 := G2.unit n00 n10 n01
    have hsq2 : ∀ p ∈ chain o2, Sq 18 p := fun p hp => hsqo p (G2.sub p hp)
    have hne2 := hU2.ne
    have h60 := cv2.few
    have h3c := cv2.three
    have hlx2 : ∀ k, 0 < k → k < (chain o2).length → Lx (at' (chain o2) 0) (at' (chain o2) k) := fun k h1 h2 => G2.least k h1 h2
    clear hasc2 hmem2 n00 n10 n01 ho2 hsqo G2 hpt p2 p1
    have el2 := htp2.len
    -- the greatest first coordinate
    refine ⟨_, rfl, c2, rfl, ⟨_, SqL.of hys2⟩, fun Dx hDx => lc_list (xs := ys2) (fun n Hn => Hn = upd H11 Dx (.lst ((((chain o2).map fun p => p.1).take n).map V.int))) rfl (fun n Hn _ e => ?_) (fun n y Hn hy e => ?_) (fun Hn e => ?_)⟩
    · subst e
      exact SqL.of (Same.new hDx _ _ hys2)
    · subst e
      have kD := Same.new (o := .lst ((((chain o2).map fun p => p.1).take n).map V.int)) hDx
      obtain ⟨hn, t, rfl, ht⟩ := htp2.at hy
      refine ⟨t, _, rfl, SqT.of (kD _ _ ht), rfl, _, _, rfl, _, _, rfl, rfl, rfl, tyes ⟨_, rfl, _, upd_same, ?_, ?_⟩⟩
      · simp only [List.length_map, List.length_take]
        exact smallLine (by omega)
      · have e : ((chain o2).map fun p => p.1).take (n + 1) = ((chain o2).map fun p => p.1).take n ++ [(at' (chain o2) n).1] := by
          rw [List.take_add_one, List.getElem?_map, at_get hn]
          rfl
        rw [upd_upd, e, List.map_append]
        rfl
    subst e
    have ef : ((chain o2).map fun p => p.1).take ys2.length = (chain o2).map fun p => p.1 := List.take_of_length_le (by rw [List.length_map]; omega)
    rw [ef]
    have sx := Same.new (o := .lst (((chain o2).map fun p => p.1).map V.int)) hDx
    refine ⟨Dx, (chain o2).map fun p => p.1, rfl, SqL.of upd_same, by rw [List.length_map]; omega, fun mx hmx hmle => ?_⟩
    have hmxp : ∀ p ∈ chain o2, p.1 ≤ mx := fun p hp => hmle _ (List.mem_map.mpr ⟨p, hp, rfl⟩)
    have hmx0 : 0 ≤ mx := by
      obtain ⟨p, hp, e⟩ := List.mem_map.mp hmx
      have h := (hsq2 p hp).1
      omega
    refine ⟨_, _, rfl, ?_⟩
    -- least_width(Polygon(hull))
    have hysX := sx _ _ hys2
    have htpX := htp2.keep (Keep.of sx)
    have s12 := s11.trans sx
    generalize upd H11 Dx (.lst (((chain o2).map fun p => p.1).map V.int)) = H12 at *
    refine ⟨_, rfl, fun x2 dx2 nx2 ndx2 nex2 => ?_⟩
    refine ⟨x2, dx2, c2, ys2, chain o2, rfl, upd_same, made_same nx2 ndx2 _ _ hysX, htpX.keep (Keep.of (made_same nx2 ndx2)), cv2, hlx2, fun H13 b13 hpoly2 => ⟨rfl, ?_⟩⟩
    have t13 : Same H12 H13 := made_poly nx2 ndx2 b13
    refine ⟨x2, chain o2, rfl, hpoly2, cv2, hU2, fun D2 Lr H14 M2 vs2 ds2 hlw2 t14 hD2 hLr hds2 => ?_⟩
    have t1214 := t13.trans t14
    refine ⟨D2, _, rfl, SqT.of hD2, rfl, _, _, rfl, _, _, rfl, rfl, ?_⟩
    refine ⟨_, rfl, _, rfl, by show 2 ≤ sizeLine; decide, fun T2 hT2 => ?_⟩
    have sT := Same.new (o := .tup [.int M2, .ref Lr]) hT2
    have t1215 := t1214.trans sT
    -- what is expected there
    refine ⟨_, rfl, _, rfl, _, rfl, fun x3 dx3 nx3 ndx3 nex3 => ?_⟩
    refine ⟨x3, dx3, c2, ys2, chain o2, rfl, upd_same, made_same nx3 ndx3 _ _ (t1215 _ _ hysX), (htpX.keep (Keep.of t1215)).keep (Keep.of (made_same nx3 ndx3)), cv2, hlx2, fun H16 b16 hpoly3 => ⟨rfl, ?_⟩⟩
    have t16 : Same _ H16 := made_poly nx3 ndx3 b16
    refine ⟨by show 2 ≤ sizeLine; decide, fun g3 hg3 => ?_⟩
    have u3 := Same.new (o := .tup [.int 0, .int 1]) hg3
    refine ⟨x3, .ref g3, chain o2, (0, 1), rfl, hpoly3.same u3, cv2, ⟨g3, rfl, upd_same⟩, by decide, fun H17 t17 => ?_⟩
    have t1517 := (t16.trans u3).trans t17
    have t1217 := t1215.trans t1517
    refine ⟨_, _, rfl, ?_⟩
    have v2 := W_nonneg hne2 (0, 1)
    have vb1 := W10 hne2 (A := 0) (B := mx) (fun p hp => ⟨(hsq2 p hp).1, hmxp p hp⟩)
    have vb2 := W01 hne2 (A := -6) (B := 6) (fun p hp => ⟨(hsq2 p hp).2.2.1, (hsq2 p hp).2.2.2⟩)
    obtain ⟨m', em', hm20', hcert'⟩ : ∃ m : Nat, (if W (chain o2) (0, 1) < (if 12 < mx then 12 else mx) then W (chain o2) (0, 1) else (if 12 < mx then 12 else mx)) = (m : Int) ∧ m ≤ 20 ∧ ∃ d, Nz d ∧ W (chain o2) d ≤ (m : Int) := by
      by_cases z : 12 < mx
      · rw [if_pos z]
        by_cases z2 : W (chain o2) (0, 1) < 12
        · rw [if_pos z2]
          exact ⟨(W (chain o2) (0, 1)).toNat, by omega, by omega, (0, 1), nz01, by omega⟩
        · rw [if_neg z2]
          exact ⟨12, rfl, by decide, (0, 1), nz01, by omega⟩
      · rw [if_neg z]
        by_cases z2 : W (chain o2) (0, 1) < mx
        · rw [if_pos z2]
          exact ⟨(W (chain o2) (0, 1)).toNat, by omega, by omega, (0, 1), nz01, by omega⟩
        · rw [if_neg z2]
          exact ⟨mx.toNat, by omega, by omega, (1, 0), nz10, by omega⟩
    refine ⟨c2, ys2, chain o2, m', (by rw [em']; rfl), t1217 _ _ hysX, htpX.keep (Keep.of t1217), cv2, hU2, hm20', hcert', fun D' L' H18 M' vs' ds' hlw' t18 hD' hL' hds' => ?_⟩
    obtain ⟨rfl, rfl⟩ := hlw2.uniq hlw'
    have t1518 := t1517.trans t18
    refine ⟨resD M2 ds2, resD M2 ds2, resD_dp (t1518 _ _ upd_same) (t1518 _ _ (sT _ _ hLr)) ((hds2.keep (Keep.of sT)).keep (Keep.of t1518)), resD_dp hD' hL' hds', resD_shaped _ _, resD_shaped _ _, _, rfl, ?_⟩
    have er2 : PyData.eqv (resD M2 ds2) (resD M2 ds2) = true := SeqAt.eqv_refl _ (SeqAt.canLay_of_shaped (resD_shaped _ _))
    rw [er2]
    exact iteF ⟨(s12.trans t1217).trans t18, _, _, _, _, _, _, _, _, _, _, _, rfl⟩
end
end Lat

/-! D24: what the top has written. -/
namespace Lat
open PySem PySem.Spec PyProof.Rows L2 Geo Gx
theorem all_mk {l : PySem.W.OpenLaw} {w : World} {K : PySem.W.Frag} {h : Heap} {mg : Str → Option Value} {fa : Addr} (X : K.In h) (G : h.Ns mainGlobals mg) (hfa : mg "law" = some (.ref fa))
    {CP CB pp : Addr} {tM t60 : Tok} {rest : List Value}
    {f0 : Addr} {od0 an0 : Option Addr} {sl0 : Array (Option Value)} {oc0 kV0 dc0 pm0 cd0 ct0 : Value}
    {f1 : Addr} {od1 an1 : Option Addr} {sl1 : Array (Option Value)} {oc1 kV1 dc1 pm1 cd1 ct1 : Value}
    {f2 : Addr} {od2 an2 : Option Addr} {sl2 : Array (Option Value)} {oc2 kV2 dc2 pm2 cd2 ct2 : Value}
    {f3 : Addr} {od3 an3 : Option Addr} {sl3 : Array (Option Value)} {oc3 kV3 dc3 pm3 cd3 ct3 : Value}
    {f4 : Addr} {od4 an4 : Option Addr} {sl4 : Array (Option Value)} {oc4 kV4 dc4 pm4 cd4 ct4 : Value}
    {f5 : Addr} {od5 an5 : Option Addr} {sl5 : Array (Option Value)} {oc5 kV5 dc5 pm5 cd5 ct5 : Value}
    {f6 : Addr} {od6 an6 : Option Addr} {sl6 : Array (Option Value)} {oc6 kV6 dc6 pm6 cd6 ct6 : Value}
    {f7 : Addr} {od7 an7 : Option Addr} {sl7 : Array (Option Value)} {oc7 kV7 dc7 pm7 cd7 ct7 : Value}
    {f8 : Addr} {od8 an8 : Option Addr} {sl8 : Array (Option Value)} {oc8 kV8 dc8 pm8 cd8 ct8 : Value}
    {f9 : Addr} {od9 an9 : Option Addr} {sl9 : Array (Option Value)} {oc9 kV9 dc9 pm9 cd9 ct9 : Value}
    {f10 : Addr} {od10 an10 : Option Addr} {sl10 : Array (Option Value)} {oc10 kV10 dc10 pm10 cd10 ct10 : Value}
    {f11 : Addr} {od11 an11 : Option Addr} {sl11 : Array (Option Value)} {oc11 kV11 dc11 pm11 cd11 ct11 : Value}
    {f12 : Addr} {od12 an12 : Option Addr} {sl12 : Array (Option Value)} {oc12 kV12 dc12 pm12 cd12 ct12 : Value}
    {f13 : Addr} {od13 an13 : Option Addr} {sl13 : Array (Option Value)} {oc13 kV13 dc13 pm13 cd13 ct13 : Value}
    {f14 : Addr} {od14 an14 : Option Addr} {sl14 : Array (Option Value)} {oc14 kV14 dc14 pm14 cd14 ct14 : Value}
    {f15 : Addr} {od15 an15 : Option Addr} {sl15 : Array (Option Value)} {oc15 kV15 dc15 pm15 cd15 ct15 : Value}
    {f16 : Addr} {od16 an16 : Option Addr} {sl16 : Array (Option Value)} {oc16 kV16 dc16 pm16 cd16 ct16 : Value}
    {f17 : Addr} {od17 an17 : Option Addr} {sl17 : Array (Option Value)} {oc17 kV17 dc17 pm17 cd17 ct17 : Value}
    {f18 : Addr} {od18 an18 : Option Addr} {sl18 : Array (Option Value)} {oc18 kV18 dc18 pm18 cd18 ct18 : Value}
    {f19 : Addr} {od19 an19 : Option Addr} {sl19 : Array (Option Value)} {oc19 kV19 dc19 pm19 cd19 ct19 : Value}
    {f20 : Addr} {od20 an20 : Option Addr} {sl20 : Array (Option Value)} {oc20 kV20 dc20 pm20 cd20 ct20 : Value}
    {f21 : Addr} {od21 an21 : Option Addr} {sl21 : Array (Option Value)} {oc21 kV21 dc21 pm21 cd21 ct21 : Value}
    {f22 : Addr} {od22 an22 : Option Addr} {sl22 : Array (Option Value)} {oc22 kV22 dc22 pm22 cd22 ct22 : Value}
    {f23 : Addr} {od23 an23 : Option Addr} {sl23 : Array (Option Value)} {oc23 kV23 dc23 pm23 cd23 ct23 : Value}
    {f24 : Addr} {od24 an24 : Option Addr} {sl24 : Array (Option Value)} {oc24 kV24 dc24 pm24 cd24 ct24 : Value}
    {f25 : Addr} {od25 an25 : Option Addr} {sl25 : Array (Option Value)} {oc25 kV25 dc25 pm25 cd25 ct25 : Value}
    {f26 : Addr} {od26 an26 : Option Addr} {sl26 : Array (Option Value)} {oc26 kV26 dc26 pm26 cd26 ct26 : Value}
    {f27 : Addr} {od27 an27 : Option Addr} {sl27 : Array (Option Value)} {oc27 kV27 dc27 pm27 cd27 ct27 : Value}
    {f28 : Addr} {od28 an28 : Option Addr} {sl28 : Array (Option Value)} {oc28 kV28 dc28 pm28 cd28 ct28 : Value}
    {f29 : Addr} {od29 an29 : Option Addr} {sl29 : Array (Option Value)} {oc29 kV29 dc29 pm29 cd29 ct29 : Value}
    {f30 : Addr} {od30 an30 : Option Addr} {sl30 : Array (Option Value)} {oc30 kV30 dc30 pm30 cd30 ct30 : Value}
    {f31 : Addr} {od31 an31 : Option Addr} {sl31 : Array (Option Value)} {oc31 kV31 dc31 pm31 cd31 ct31 : Value}
    {f32 : Addr} {od32 an32 : Option Addr} {sl32 : Array (Option Value)} {oc32 kV32 dc32 pm32 cd32 ct32 : Value}
    {f33 : Addr} {od33 an33 : Option Addr} {sl33 : Array (Option Value)} {oc33 kV33 dc33 pm33 cd33 ct33 : Value}
    {f34 : Addr} {od34 an34 : Option Addr} {sl34 : Array (Option Value)} {oc34 kV34 dc34 pm34 cd34 ct34 : Value}
    {f35 : Addr} {od35 an35 : Option Addr} {sl35 : Array (Option Value)} {oc35 kV35 dc35 pm35 cd35 ct35 : Value}
    {f36 : Addr} {od36 an36 : Option Addr} {sl36 : Array (Option Value)} {oc36 kV36 dc36 pm36 cd36 ct36 : Value}
    {f37 : Addr} {od37 an37 : Option Addr} {sl37 : Array (Option Value)} {oc37 kV37 dc37 pm37 cd37 ct37 : Value}
    {f38 : Addr} {od38 an38 : Option Addr} {sl38 : Array (Option Value)} {oc38 kV38 dc38 pm38 cd38 ct38 : Value}
    {fpi : Addr} {odpi anpi : Option Addr} {slpi : Array (Option Value)} {ocpi kVpi dcpi pmpi cdpi ctpi : Value}
    {fpc : Addr} {odpc anpc : Option Addr} {slpc : Array (Option Value)} {ocpc kVpc dcpc pmpc cdpc ctpc : Value}
    {fbi : Addr} {odbi anbi : Option Addr} {slbi : Array (Option Value)} {ocbi kVbi dcbi pmbi cdbi ctbi : Value}
    {fbp : Addr} {odbp anbp : Option Addr} {slbp : Array (Option Value)} {ocbp kVbp dcbp pmbp cdbp ctbp : Value}
    {fbr : Addr} {odbr anbr : Option Addr} {slbr : Array (Option Value)} {ocbr kVbr dcbr pmbr cdbr ctbr : Value}
    (aP : PySem.W.nsIn K mainGlobals "Polygon" = some (some (.ref CP)))
    (aB : PySem.W.nsIn K mainGlobals "Basis" = some (some (.ref CB)))
    (aM : PySem.W.nsIn K mainGlobals "MIN_CORNERS" = some (some (.int 3 tM)))
    (z_isinstance : PySem.W.nsIn K mainGlobals "isinstance" = some none)
    (z_int : PySem.W.nsIn K mainGlobals "int" = some none)
    (z_bool : PySem.W.nsIn K mainGlobals "bool" = some none)
    (z_abs : PySem.W.nsIn K mainGlobals "abs" = some none)
    (z_tuple : PySem.W.nsIn K mainGlobals "tuple" = some none)
    (z_len : PySem.W.nsIn K mainGlobals "len" = some none)
    (z_all : PySem.W.nsIn K mainGlobals "all" = some none)
    (z_list : PySem.W.nsIn K mainGlobals "list" = some none)
    (z_enumerate : PySem.W.nsIn K mainGlobals "enumerate" = some none)
    (z_range : PySem.W.nsIn K mainGlobals "range" = some none)
    (z_sum : PySem.W.nsIn K mainGlobals "sum" = some none)
    (z_min : PySem.W.nsIn K mainGlobals "min" = some none)
    (z_max : PySem.W.nsIn K mainGlobals "max" = some none)
    (z_sorted : PySem.W.nsIn K mainGlobals "sorted" = some none)
    (z_set : PySem.W.nsIn K mainGlobals "set" = some none)
    (a0 : PySem.W.nsIn K mainGlobals "is_integer" = some (some (.ref f0)))
    (l0 : K.lookup f0 = some ⟨oc0, od0, .func (PySem.W.fnOf "is_integer" "is_integer" (defArgs sIsInt) (defBody sIsInt) (defScope sIsInt) .none kV0 dc0 pm0 an0 cd0 ct0), sl0⟩) (c0 : PySem.W.codeIn K cd0 "is_integer" = true) (k0 : PySem.W.keepIn K (.ref f0) = true)
    (a1 : PySem.W.nsIn K mainGlobals "common_divisor" = some (some (.ref f1)))
    (l1 : K.lookup f1 = some ⟨oc1, od1, .func (PySem.W.fnOf "common_divisor" "common_divisor" (defArgs sGcd) (defBody sGcd) (defScope sGcd) .none kV1 dc1 pm1 an1 cd1 ct1), sl1⟩) (c1 : PySem.W.codeIn K cd1 "common_divisor" = true) (k1 : PySem.W.keepIn K (.ref f1) = true)
    (a2 : PySem.W.nsIn K mainGlobals "is_point" = some (some (.ref f2)))
    (l2 : K.lookup f2 = some ⟨oc2, od2, .func (PySem.W.fnOf "is_point" "is_point" (defArgs sIsPoint) (defBody sIsPoint) (defScope sIsPoint) .none kV2 dc2 pm2 an2 cd2 ct2), sl2⟩) (c2 : PySem.W.codeIn K cd2 "is_point" = true) (k2 : PySem.W.keepIn K (.ref f2) = true)
    (a3 : PySem.W.nsIn K mainGlobals "check_direction" = some (some (.ref f3)))
    (l3 : K.lookup f3 = some ⟨oc3, od3, .func (PySem.W.fnOf "check_direction" "check_direction" (defArgs sChkDir) (defBody sChkDir) (defScope sChkDir) .none kV3 dc3 pm3 an3 cd3 ct3), sl3⟩) (c3 : PySem.W.codeIn K cd3 "check_direction" = true) (k3 : PySem.W.keepIn K (.ref f3) = true)
    (a4 : PySem.W.nsIn K mainGlobals "cross_of" = some (some (.ref f4)))
    (l4 : K.lookup f4 = some ⟨oc4, od4, .func (PySem.W.fnOf "cross_of" "cross_of" (defArgs sCross) (defBody sCross) (defScope sCross) .none kV4 dc4 pm4 an4 cd4 ct4), sl4⟩) (c4 : PySem.W.codeIn K cd4 "cross_of" = true) (k4 : PySem.W.keepIn K (.ref f4) = true)
    (a5 : PySem.W.nsIn K mainGlobals "dot_of" = some (some (.ref f5)))
    (l5 : K.lookup f5 = some ⟨oc5, od5, .func (PySem.W.fnOf "dot_of" "dot_of" (defArgs sDot) (defBody sDot) (defScope sDot) .none kV5 dc5 pm5 an5 cd5 ct5), sl5⟩) (c5 : PySem.W.codeIn K cd5 "dot_of" = true) (k5 : PySem.W.keepIn K (.ref f5) = true)
    (a6 : PySem.W.nsIn K mainGlobals "difference" = some (some (.ref f6)))
    (l6 : K.lookup f6 = some ⟨oc6, od6, .func (PySem.W.fnOf "difference" "difference" (defArgs sDiff) (defBody sDiff) (defScope sDiff) .none kV6 dc6 pm6 an6 cd6 ct6), sl6⟩) (c6 : PySem.W.codeIn K cd6 "difference" = true) (k6 : PySem.W.keepIn K (.ref f6) = true)
    (a7 : PySem.W.nsIn K mainGlobals "turn_of" = some (some (.ref f7)))
    (l7 : K.lookup f7 = some ⟨oc7, od7, .func (PySem.W.fnOf "turn_of" "turn_of" (defArgs sTurn) (defBody sTurn) (defScope sTurn) .none kV7 dc7 pm7 an7 cd7 ct7), sl7⟩) (c7 : PySem.W.codeIn K cd7 "turn_of" = true) (k7 : PySem.W.keepIn K (.ref f7) = true)
    (a8 : PySem.W.nsIn K mainGlobals "content_of" = some (some (.ref f8)))
    (l8 : K.lookup f8 = some ⟨oc8, od8, .func (PySem.W.fnOf "content_of" "content_of" (defArgs sContent) (defBody sContent) (defScope sContent) .none kV8 dc8 pm8 an8 cd8 ct8), sl8⟩) (c8 : PySem.W.codeIn K cd8 "content_of" = true) (k8 : PySem.W.keepIn K (.ref f8) = true)
    (a9 : PySem.W.nsIn K mainGlobals "check_points" = some (some (.ref f9)))
    (l9 : K.lookup f9 = some ⟨oc9, od9, .func (PySem.W.fnOf "check_points" "check_points" (defArgs sChkPts) (defBody sChkPts) (defScope sChkPts) .none kV9 dc9 pm9 an9 cd9 ct9), sl9⟩) (c9 : PySem.W.codeIn K cd9 "check_points" = true) (k9 : PySem.W.keepIn K (.ref f9) = true)
    (a10 : PySem.W.nsIn K mainGlobals "triples" = some (some (.ref f10)))
    (l10 : K.lookup f10 = some ⟨oc10, od10, .func (PySem.W.fnOf "triples" "triples" (defArgs sTriples) (defBody sTriples) (defScope sTriples) .none kV10 dc10 pm10 an10 cd10 ct10), sl10⟩) (c10 : PySem.W.codeIn K cd10 "triples" = true) (k10 : PySem.W.keepIn K (.ref f10) = true)
    (a11 : PySem.W.nsIn K mainGlobals "check_turns" = some (some (.ref f11)))
    (l11 : K.lookup f11 = some ⟨oc11, od11, .func (PySem.W.fnOf "check_turns" "check_turns" (defArgs sChkTurns) (defBody sChkTurns) (defScope sChkTurns) .none kV11 dc11 pm11 an11 cd11 ct11), sl11⟩) (c11 : PySem.W.codeIn K cd11 "check_turns" = true) (k11 : PySem.W.keepIn K (.ref f11) = true)
    (a12 : PySem.W.nsIn K mainGlobals "is_on" = some (some (.ref f12)))
    (l12 : K.lookup f12 = some ⟨oc12, od12, .func (PySem.W.fnOf "is_on" "is_on" (defArgs sIsOn) (defBody sIsOn) (defScope sIsOn) .none kV12 dc12 pm12 an12 cd12 ct12), sl12⟩) (c12 : PySem.W.codeIn K cd12 "is_on" = true) (k12 : PySem.W.keepIn K (.ref f12) = true)
    (a13 : PySem.W.nsIn K mainGlobals "have_common_point" = some (some (.ref f13)))
    (l13 : K.lookup f13 = some ⟨oc13, od13, .func (PySem.W.fnOf "have_common_point" "have_common_point" (defArgs sCommon) (defBody sCommon) (defScope sCommon) .none kV13 dc13 pm13 an13 cd13 ct13), sl13⟩) (c13 : PySem.W.codeIn K cd13 "have_common_point" = true) (k13 : PySem.W.keepIn K (.ref f13) = true)
    (a14 : PySem.W.nsIn K mainGlobals "edges_of" = some (some (.ref f14)))
    (l14 : K.lookup f14 = some ⟨oc14, od14, .func (PySem.W.fnOf "edges_of" "edges_of" (defArgs sEdges) (defBody sEdges) (defScope sEdges) .none kV14 dc14 pm14 an14 cd14 ct14), sl14⟩) (c14 : PySem.W.codeIn K cd14 "edges_of" = true) (k14 : PySem.W.keepIn K (.ref f14) = true)
    (a15 : PySem.W.nsIn K mainGlobals "check_crossings" = some (some (.ref f15)))
    (l15 : K.lookup f15 = some ⟨oc15, od15, .func (PySem.W.fnOf "check_crossings" "check_crossings" (defArgs sCross2) (defBody sCross2) (defScope sCross2) .none kV15 dc15 pm15 an15 cd15 ct15), sl15⟩) (c15 : PySem.W.codeIn K cd15 "check_crossings" = true) (k15 : PySem.W.keepIn K (.ref f15) = true)
    (a16 : PySem.W.nsIn K mainGlobals "area_of" = some (some (.ref f16)))
    (l16 : K.lookup f16 = some ⟨oc16, od16, .func (PySem.W.fnOf "area_of" "area_of" (defArgs sArea) (defBody sArea) (defScope sArea) .none kV16 dc16 pm16 an16 cd16 ct16), sl16⟩) (c16 : PySem.W.codeIn K cd16 "area_of" = true) (k16 : PySem.W.keepIn K (.ref f16) = true)
    (a17 : PySem.W.nsIn K mainGlobals "arranged" = some (some (.ref f17)))
    (l17 : K.lookup f17 = some ⟨oc17, od17, .func (PySem.W.fnOf "arranged" "arranged" (defArgs sArr) (defBody sArr) (defScope sArr) .none kV17 dc17 pm17 an17 cd17 ct17), sl17⟩) (c17 : PySem.W.codeIn K cd17 "arranged" = true) (k17 : PySem.W.keepIn K (.ref f17) = true)
    (a18 : PySem.W.nsIn K mainGlobals "checked_corners" = some (some (.ref f18)))
    (l18 : K.lookup f18 = some ⟨oc18, od18, .func (PySem.W.fnOf "checked_corners" "checked_corners" (defArgs sChecked) (defBody sChecked) (defScope sChecked) .none kV18 dc18 pm18 an18 cd18 ct18), sl18⟩) (c18 : PySem.W.codeIn K cd18 "checked_corners" = true) (k18 : PySem.W.keepIn K (.ref f18) = true)
    (a19 : PySem.W.nsIn K mainGlobals "first_reflex" = some (some (.ref f19)))
    (l19 : K.lookup f19 = some ⟨oc19, od19, .func (PySem.W.fnOf "first_reflex" "first_reflex" (defArgs sReflex) (defBody sReflex) (defScope sReflex) .none kV19 dc19 pm19 an19 cd19 ct19), sl19⟩) (c19 : PySem.W.codeIn K cd19 "first_reflex" = true) (k19 : PySem.W.keepIn K (.ref f19) = true)
    (a20 : PySem.W.nsIn K mainGlobals "check_polygon" = some (some (.ref f20)))
    (l20 : K.lookup f20 = some ⟨oc20, od20, .func (PySem.W.fnOf "check_polygon" "check_polygon" (defArgs sChkPoly) (defBody sChkPoly) (defScope sChkPoly) .none kV20 dc20 pm20 an20 cd20 ct20), sl20⟩) (c20 : PySem.W.codeIn K cd20 "check_polygon" = true) (k20 : PySem.W.keepIn K (.ref f20) = true)
    (a21 : PySem.W.nsIn K mainGlobals "width_along" = some (some (.ref f21)))
    (l21 : K.lookup f21 = some ⟨oc21, od21, .func (PySem.W.fnOf "width_along" "width_along" (defArgs sWAl) (defBody sWAl) (defScope sWAl) .none kV21 dc21 pm21 an21 cd21 ct21), sl21⟩) (c21 : PySem.W.codeIn K cd21 "width_along" = true) (k21 : PySem.W.keepIn K (.ref f21) = true)
    (a22 : PySem.W.nsIn K mainGlobals "width_in" = some (some (.ref f22)))
    (l22 : K.lookup f22 = some ⟨oc22, od22, .func (PySem.W.fnOf "width_in" "width_in" (defArgs sWIn) (defBody sWIn) (defScope sWIn) .none kV22 dc22 pm22 an22 cd22 ct22), sl22⟩) (c22 : PySem.W.codeIn K cd22 "width_in" = true) (k22 : PySem.W.keepIn K (.ref f22) = true)
    (a23 : PySem.W.nsIn K mainGlobals "widest_pair" = some (some (.ref f23)))
    (l23 : K.lookup f23 = some ⟨oc23, od23, .func (PySem.W.fnOf "widest_pair" "widest_pair" (defArgs sWidest) (defBody sWidest) (defScope sWidest) .none kV23 dc23 pm23 an23 cd23 ct23), sl23⟩) (c23 : PySem.W.codeIn K cd23 "widest_pair" = true) (k23 : PySem.W.keepIn K (.ref f23) = true)
    (a24 : PySem.W.nsIn K mainGlobals "box_of" = some (some (.ref f24)))
    (l24 : K.lookup f24 = some ⟨oc24, od24, .func (PySem.W.fnOf "box_of" "box_of" (defArgs sBox) (defBody sBox) (defScope sBox) .none kV24 dc24 pm24 an24 cd24 ct24), sl24⟩) (c24 : PySem.W.codeIn K cd24 "box_of" = true) (k24 : PySem.W.keepIn K (.ref f24) = true)
    (a25 : PySem.W.nsIn K mainGlobals "box_directions" = some (some (.ref f25)))
    (l25 : K.lookup f25 = some ⟨oc25, od25, .func (PySem.W.fnOf "box_directions" "box_directions" (defArgs sBoxD) (defBody sBoxD) (defScope sBoxD) .none kV25 dc25 pm25 an25 cd25 ct25), sl25⟩) (c25 : PySem.W.codeIn K cd25 "box_directions" = true) (k25 : PySem.W.keepIn K (.ref f25) = true)
    (a26 : PySem.W.nsIn K mainGlobals "certificate_for" = some (some (.ref f26)))
    (l26 : K.lookup f26 = some ⟨oc26, od26, .func (PySem.W.fnOf "certificate_for" "certificate_for" (defArgs sCert) (defBody sCert) (defScope sCert) .none kV26 dc26 pm26 an26 cd26 ct26), sl26⟩) (c26 : PySem.W.codeIn K cd26 "certificate_for" = true) (k26 : PySem.W.keepIn K (.ref f26) = true)
    (a27 : PySem.W.nsIn K mainGlobals "is_normalized" = some (some (.ref f27)))
    (l27 : K.lookup f27 = some ⟨oc27, od27, .func (PySem.W.fnOf "is_normalized" "is_normalized" (defArgs sNorm) (defBody sNorm) (defScope sNorm) .none kV27 dc27 pm27 an27 cd27 ct27), sl27⟩) (c27 : PySem.W.codeIn K cd27 "is_normalized" = true) (k27 : PySem.W.keepIn K (.ref f27) = true)
    (a28 : PySem.W.nsIn K mainGlobals "least_width" = some (some (.ref f28)))
    (l28 : K.lookup f28 = some ⟨oc28, od28, .func (PySem.W.fnOf "least_width" "least_width" (defArgs sLW) (defBody sLW) (defScope sLW) .none kV28 dc28 pm28 an28 cd28 ct28), sl28⟩) (c28 : PySem.W.codeIn K cd28 "least_width" = true) (k28 : PySem.W.keepIn K (.ref f28) = true)
    (a29 : PySem.W.nsIn K mainGlobals "_law_draws" = some (some (.ref f29)))
    (l29 : K.lookup f29 = some ⟨oc29, od29, .func (PySem.W.fnOf "_law_draws" "_law_draws" (defArgs sDraws) (defBody sDraws) (defScope sDraws) .none kV29 dc29 pm29 an29 cd29 ct29), sl29⟩) (c29 : PySem.W.codeIn K cd29 "_law_draws" = true) (k29 : PySem.W.keepIn K (.ref f29) = true)
    (a30 : PySem.W.nsIn K mainGlobals "_law_draw" = some (some (.ref f30)))
    (l30 : K.lookup f30 = some ⟨oc30, od30, .func (PySem.W.fnOf "_law_draw" "_law_draw" (defArgs sDraw) (defBody sDraw) (defScope sDraw) .none kV30 dc30 pm30 an30 cd30 ct30), sl30⟩) (c30 : PySem.W.codeIn K cd30 "_law_draw" = true) (k30 : PySem.W.keepIn K (.ref f30) = true)
    (a31 : PySem.W.nsIn K mainGlobals "_law_turn" = some (some (.ref f31)))
    (l31 : K.lookup f31 = some ⟨oc31, od31, .func (PySem.W.fnOf "_law_turn" "_law_turn" (defArgs sLTurn) (defBody sLTurn) (defScope sLTurn) .none kV31 dc31 pm31 an31 cd31 ct31), sl31⟩) (c31 : PySem.W.codeIn K cd31 "_law_turn" = true) (k31 : PySem.W.keepIn K (.ref f31) = true)
    (a32 : PySem.W.nsIn K mainGlobals "_law_hull" = some (some (.ref f32)))
    (l32 : K.lookup f32 = some ⟨oc32, od32, .func (PySem.W.fnOf "_law_hull" "_law_hull" (defArgs sHull) (defBody sHull) (defScope sHull) .none kV32 dc32 pm32 an32 cd32 ct32), sl32⟩) (c32 : PySem.W.codeIn K cd32 "_law_hull" = true) (k32 : PySem.W.keepIn K (.ref f32) = true)
    (a33 : PySem.W.nsIn K mainGlobals "_law_convex" = some (some (.ref f33)))
    (l33 : K.lookup f33 = some ⟨oc33, od33, .func (PySem.W.fnOf "_law_convex" "_law_convex" (defArgs sConvex) (defBody sConvex) (defScope sConvex) .none kV33 dc33 pm33 an33 cd33 ct33), sl33⟩) (c33 : PySem.W.codeIn K cd33 "_law_convex" = true) (k33 : PySem.W.keepIn K (.ref f33) = true)
    (a34 : PySem.W.nsIn K mainGlobals "_law_cleaned" = some (some (.ref f34)))
    (l34 : K.lookup f34 = some ⟨oc34, od34, .func (PySem.W.fnOf "_law_cleaned" "_law_cleaned" (defArgs sClean) (defBody sClean) (defScope sClean) .none kV34 dc34 pm34 an34 cd34 ct34), sl34⟩) (c34 : PySem.W.codeIn K cd34 "_law_cleaned" = true) (k34 : PySem.W.keepIn K (.ref f34) = true)
    (a35 : PySem.W.nsIn K mainGlobals "_law_simple" = some (some (.ref f35)))
    (l35 : K.lookup f35 = some ⟨oc35, od35, .func (PySem.W.fnOf "_law_simple" "_law_simple" (defArgs sSimple) (defBody sSimple) (defScope sSimple) .none kV35 dc35 pm35 an35 cd35 ct35), sl35⟩) (c35 : PySem.W.codeIn K cd35 "_law_simple" = true) (k35 : PySem.W.keepIn K (.ref f35) = true)
    (a36 : PySem.W.nsIn K mainGlobals "_law_divisor" = some (some (.ref f36)))
    (l36 : K.lookup f36 = some ⟨oc36, od36, .func (PySem.W.fnOf "_law_divisor" "_law_divisor" (defArgs sDivi) (defBody sDivi) (defScope sDivi) .none kV36 dc36 pm36 an36 cd36 ct36), sl36⟩) (c36 : PySem.W.codeIn K cd36 "_law_divisor" = true) (k36 : PySem.W.keepIn K (.ref f36) = true)
    (a37 : PySem.W.nsIn K mainGlobals "_law_expected" = some (some (.ref f37)))
    (l37 : K.lookup f37 = some ⟨oc37, od37, .func (PySem.W.fnOf "_law_expected" "_law_expected" (defArgs sExp) (defBody sExp) (defScope sExp) .none kV37 dc37 pm37 an37 cd37 ct37), sl37⟩) (c37 : PySem.W.codeIn K cd37 "_law_expected" = true) (k37 : PySem.W.keepIn K (.ref f37) = true)
    (a38 : PySem.W.nsIn K mainGlobals "law" = some (some (.ref f38)))
    (l38 : K.lookup f38 = some ⟨oc38, od38, .func (PySem.W.fnOf "law" "law" (defArgs sLaw) (defBody sLaw) (defScope sLaw) .none kV38 dc38 pm38 an38 cd38 ct38), sl38⟩) (c38 : PySem.W.codeIn K cd38 "law" = true) (k38 : PySem.W.keepIn K (.ref f38) = true)
    (pinit : PySem.W.findIn K (.ref CP) "__init__" = some (some (.ref fpi)))
    (lpi : K.lookup fpi = some ⟨ocpi, odpi, .func (PySem.W.fnOf "__init__" "Polygon.__init__" (defArgs sPolyInit) (defBody sPolyInit) (defScope sPolyInit) .none kVpi dcpi pmpi anpi cdpi ctpi), slpi⟩) (cpi : PySem.W.codeIn K cdpi "Polygon.__init__" = true) (kpi : PySem.W.keepIn K (.ref fpi) = true)
    (ipi : PySem.W.isFn K (.ref fpi) = true)
    (pprop : PySem.W.findIn K (.ref CP) "corners" = some (some (.ref pp)))
    (prec : PySem.W.recIn K pp "property" = some (.ref fpc :: rest))
    (pget : PySem.W.specialIn K (.ref pp) "__get__" = some (some (.builtin "property.__get__")))
    (ptak : PySem.W.takesIn K (.ref pp) = some true)
    (lpc : K.lookup fpc = some ⟨ocpc, odpc, .func (PySem.W.fnOf "corners" "Polygon.corners" (defArgs sPolyCorners) (defBody sPolyCorners) (defScope sPolyCorners) .none kVpc dcpc pmpc anpc cdpc ctpc), slpc⟩) (cpc : PySem.W.codeIn K cdpc "Polygon.corners" = true) (kpc : PySem.W.keepIn K (.ref fpc) = true)
    (ppg : PySem.W.plainGet K CP Str.empty = true) (phd : PySem.W.hasDictIn K CP = true) (ppo : PySem.W.plainOver K CP = true) (psa : PySem.W.findIn K (.ref CP) "__setattr__" = some (some (.builtin "object.__setattr__"))) (pmk : PySem.W.makesIn K CP = true) (pkc : PySem.W.keepIn K (.ref CP) = true)
    (bpg : PySem.W.plainGet K CB Str.empty = true) (bhd : PySem.W.hasDictIn K CB = true) (bpo : PySem.W.plainOver K CB = true) (bsa : PySem.W.findIn K (.ref CB) "__setattr__" = some (some (.builtin "object.__setattr__"))) (bmk : PySem.W.makesIn K CB = true) (bkc : PySem.W.keepIn K (.ref CB) = true)
    (pnK : PySem.W.findIn K (.ref CP) "kept" = some none) (pnR : PySem.W.findIn K (.ref CP) "reflex" = some none)
    (prd : PySem.W.readsIn K CP (.type "type") = true) (pga : PySem.W.specialIn K (.ref CP) "__getattribute__" = some (some (.builtin "type.__getattribute__"))) (pmx : PySem.W.findCls K (.ref CP) (.type "type") "MAX_CORNERS" = some (.val (.int 60 t60)))
    (phC : PySem.W.findIn K (.ref CP) "__class__" = some (some (.builtin "object.__class__"))) (phG : PySem.W.specialIn K (.builtin "object.__class__") "__get__" = some (some (.builtin "getset_descriptor.__get__"))) (phT : PySem.W.takesIn K (.builtin "object.__class__") = some true) (phO : PySem.W.mroIn K CP (.type "object") = some true)
    (binit : PySem.W.findIn K (.ref CB) "__init__" = some (some (.ref fbi)))
    (lbi : K.lookup fbi = some ⟨ocbi, odbi, .func (PySem.W.fnOf "__init__" "Basis.__init__" (defArgs sBaInit) (defBody sBaInit) (defScope sBaInit) .none kVbi dcbi pmbi anbi cdbi ctbi), slbi⟩) (cbi : PySem.W.codeIn K cdbi "Basis.__init__" = true) (kbi : PySem.W.keepIn K (.ref fbi) = true)
    (ibi : PySem.W.isFn K (.ref fbi) = true)
    (bprod : PySem.W.findIn K (.ref CB) "product" = some (some (.ref fbp)))
    (lbp : K.lookup fbp = some ⟨ocbp, odbp, .func (PySem.W.fnOf "product" "Basis.product" (defArgs sBaProd) (defBody sBaProd) (defScope sBaProd) .none kVbp dcbp pmbp anbp cdbp ctbp), slbp⟩) (cbp : PySem.W.codeIn K cdbp "Basis.product" = true) (kbp : PySem.W.keepIn K (.ref fbp) = true)
    (ibp : PySem.W.isFn K (.ref fbp) = true)
    (bred : PySem.W.findIn K (.ref CB) "reduce" = some (some (.ref fbr)))
    (lbr : K.lookup fbr = some ⟨ocbr, odbr, .func (PySem.W.fnOf "reduce" "Basis.reduce" (defArgs sBaRed) (defBody sBaRed) (defScope sBaRed) .none kVbr dcbr pmbr anbr cdbr ctbr), slbr⟩) (cbr : PySem.W.codeIn K cdbr "Basis.reduce" = true) (kbr : PySem.W.keepIn K (.ref fbr) = true)
    (ibr : PySem.W.isFn K (.ref fbr) = true)
    (bna : PySem.W.findIn K (.ref CB) "a" = some none) (bnb : PySem.W.findIn K (.ref CB) "b" = some none) (bnu : PySem.W.findIn K (.ref CB) "u" = some none) (bnv : PySem.W.findIn K (.ref CB) "v" = some none)
    : ∃ fd : FuncData, (∀ (s : Shared) (v : Value), BindsTo s fd ⟨[v], []⟩ [("_law_script", v)]) ∧ ∀ base : Heap, K.In base → base.Ns mainGlobals mg → FnOk l.prog w K mg base CX0 9 fa fd ["_law_script"] (spLaw K) := by
  have e := hfa.symm.trans (PySem.W.mg_of X G a38)
  cases e
  have n_isinstance : mg "isinstance" = none := PySem.W.mg_none_of X G z_isinstance
  have n_int : mg "int" = none := PySem.W.mg_none_of X G z_int
  have n_bool : mg "bool" = none := PySem.W.mg_none_of X G z_bool
  have n_abs : mg "abs" = none := PySem.W.mg_none_of X G z_abs
  have n_tuple : mg "tuple" = none := PySem.W.mg_none_of X G z_tuple
  have n_len : mg "len" = none := PySem.W.mg_none_of X G z_len
  have n_all : mg "all" = none := PySem.W.mg_none_of X G z_all
  have n_list : mg "list" = none := PySem.W.mg_none_of X G z_list
  have n_enumerate : mg "enumerate" = none := PySem.W.mg_none_of X G z_enumerate
  have n_range : mg "range" = none := PySem.W.mg_none_of X G z_range
  have n_sum : mg "sum" = none := PySem.W.mg_none_of X G z_sum
  have n_min : mg "min" = none := PySem.W.mg_none_of X G z_min
  have n_max : mg "max" = none := PySem.W.mg_none_of X G z_max
  have n_sorted : mg "sorted" = none := PySem.W.mg_none_of X G z_sorted
  have n_set : mg "set" = none := PySem.W.mg_none_of X G z_set
  have mmin : ∃ t, mg "MIN_CORNERS" = some (.int 3 t) := ⟨_, PySem.W.mg_of X G aM⟩
  have TP : PoT K mg CP := ⟨⟨ppg, phd, ppo, psa⟩, pnK, pnR, PySem.W.mg_of X G aP, ⟨.type "type", t60, ⟨prd, pga⟩, ⟨pmx, ⟨_, rfl⟩⟩⟩, if_pos (beq_self_eq_true _), phC, phG, phT, phO⟩
  have TB : BaT K mg CB := ⟨⟨bpg, bhd, bpo, bsa⟩, bna, bnb, bnu, bnv, PySem.W.mg_of X G aB⟩
  have Fpi := fun_mk (st := sPolyInit) lpi cpi kpi
  have bpi := Fpi.binds (ps := ["self", "corners"]) fun _ _ _ _ _ _ us hl => match us, hl with | [_, _], _ => rfl
  have Fpc := fun_mk (st := sPolyCorners) lpc cpc kpc
  have bpc := Fpc.binds (ps := ["self"]) fun _ _ _ _ _ _ us hl => match us, hl with | [_], _ => rfl
  have Fbi := fun_mk (st := sBaInit) lbi cbi kbi
  have bbi := Fbi.binds (ps := ["self", "a", "b"]) fun _ _ _ _ _ _ us hl => match us, hl with | [_, _, _], _ => rfl
  have Fbp := fun_mk (st := sBaProd) lbp cbp kbp
  have bbp := Fbp.binds (ps := ["self", "first", "second"]) fun _ _ _ _ _ _ us hl => match us, hl with | [_, _, _], _ => rfl
  have Fbr := fun_mk (st := sBaRed) lbr cbr kbr
  have bbr := Fbr.binds (ps := ["self"]) fun _ _ _ _ _ _ us hl => match us, hl with | [_], _ => rfl
  have F0 := fun_mk (st := sIsInt) l0 c0 k0
  have b0 := F0.binds (ps := ["value"]) fun _ _ _ _ _ _ us hl => match us, hl with | [_], _ => rfl
  have F1 := fun_mk (st := sGcd) l1 c1 k1
  have b1 := F1.binds (ps := ["first", "second"]) fun _ _ _ _ _ _ us hl => match us, hl with | [_, _], _ => rfl
  have F2 := fun_mk (st := sIsPoint) l2 c2 k2
  have b2 := F2.binds (ps := ["value"]) fun _ _ _ _ _ _ us hl => match us, hl with | [_], _ => rfl
  have F3 := fun_mk (st := sChkDir) l3 c3 k3
  have b3 := F3.binds (ps := ["value"]) fun _ _ _ _ _ _ us hl => match us, hl with | [_], _ => rfl
  have F4 := fun_mk (st := sCross) l4 c4 k4
  have b4 := F4.binds (ps := ["first", "second"]) fun _ _ _ _ _ _ us hl => match us, hl with | [_, _], _ => rfl
  have F5 := fun_mk (st := sDot) l5 c5 k5
  have b5 := F5.binds (ps := ["first", "second"]) fun _ _ _ _ _ _ us hl => match us, hl with | [_, _], _ => rfl
  have F6 := fun_mk (st := sDiff) l6 c6 k6
  have b6 := F6.binds (ps := ["end", "start"]) fun _ _ _ _ _ _ us hl => match us, hl with | [_, _], _ => rfl
  have F7 := fun_mk (st := sTurn) l7 c7 k7
  have b7 := F7.binds (ps := ["first", "second", "third"]) fun _ _ _ _ _ _ us hl => match us, hl with | [_, _, _], _ => rfl
  have F8 := fun_mk (st := sContent) l8 c8 k8
  have b8 := F8.binds (ps := ["point"]) fun _ _ _ _ _ _ us hl => match us, hl with | [_], _ => rfl
  have F9 := fun_mk (st := sChkPts) l9 c9 k9
  have b9 := F9.binds (ps := ["value"]) fun _ _ _ _ _ _ us hl => match us, hl with | [_], _ => rfl
  have F10 := fun_mk (st := sTriples) l10 c10 k10
  have b10 := F10.binds (ps := ["corners"]) fun _ _ _ _ _ _ us hl => match us, hl with | [_], _ => rfl
  have F11 := fun_mk (st := sChkTurns) l11 c11 k11
  have b11 := F11.binds (ps := ["corners"]) fun _ _ _ _ _ _ us hl => match us, hl with | [_], _ => rfl
  have F12 := fun_mk (st := sIsOn) l12 c12 k12
  have b12 := F12.binds (ps := ["point", "start", "end"]) fun _ _ _ _ _ _ us hl => match us, hl with | [_, _, _], _ => rfl
  have F13 := fun_mk (st := sCommon) l13 c13 k13
  have b13 := F13.binds (ps := ["first", "second"]) fun _ _ _ _ _ _ us hl => match us, hl with | [_, _], _ => rfl
  have F14 := fun_mk (st := sEdges) l14 c14 k14
  have b14 := F14.binds (ps := ["corners"]) fun _ _ _ _ _ _ us hl => match us, hl with | [_], _ => rfl
  have F15 := fun_mk (st := sCross2) l15 c15 k15
  have b15 := F15.binds (ps := ["corners"]) fun _ _ _ _ _ _ us hl => match us, hl with | [_], _ => rfl
  have F16 := fun_mk (st := sArea) l16 c16 k16
  have b16 := F16.binds (ps := ["corners"]) fun _ _ _ _ _ _ us hl => match us, hl with | [_], _ => rfl
  have F17 := fun_mk (st := sArr) l17 c17 k17
  have b17 := F17.binds (ps := ["corners"]) fun _ _ _ _ _ _ us hl => match us, hl with | [_], _ => rfl
  have F18 := fun_mk (st := sChecked) l18 c18 k18
  have b18 := F18.binds (ps := ["corners", "limit"]) fun _ _ _ _ _ _ us hl => match us, hl with | [_, _], _ => rfl
  have F19 := fun_mk (st := sReflex) l19 c19 k19
  have b19 := F19.binds (ps := ["corners"]) fun _ _ _ _ _ _ us hl => match us, hl with | [_], _ => rfl
  have F20 := fun_mk (st := sChkPoly) l20 c20 k20
  have b20 := F20.binds (ps := ["value"]) fun _ _ _ _ _ _ us hl => match us, hl with | [_], _ => rfl
  have F21 := fun_mk (st := sWAl) l21 c21 k21
  have b21 := F21.binds (ps := ["corners", "direction"]) fun _ _ _ _ _ _ us hl => match us, hl with | [_, _], _ => rfl
  have F22 := fun_mk (st := sWIn) l22 c22 k22
  have b22 := F22.binds (ps := ["polygon", "direction"]) fun _ _ _ _ _ _ us hl => match us, hl with | [_, _], _ => rfl
  have F23 := fun_mk (st := sWidest) l23 c23 k23
  have b23 := F23.binds (ps := ["corners"]) fun _ _ _ _ _ _ us hl => match us, hl with | [_], _ => rfl
  have F24 := fun_mk (st := sBox) l24 c24 k24
  have b24 := F24.binds (ps := ["certificate", "bound"]) fun _ _ _ _ _ _ us hl => match us, hl with | [_, _], _ => rfl
  have F25 := fun_mk (st := sBoxD) l25 c25 k25
  have b25 := F25.binds (ps := ["certificate", "box"]) fun _ _ _ _ _ _ us hl => match us, hl with | [_, _], _ => rfl
  have F26 := fun_mk (st := sCert) l26 c26 k26
  have b26 := F26.binds (ps := ["corners"]) fun _ _ _ _ _ _ us hl => match us, hl with | [_], _ => rfl
  have F27 := fun_mk (st := sNorm) l27 c27 k27
  have b27 := F27.binds (ps := ["direction"]) fun _ _ _ _ _ _ us hl => match us, hl with | [_], _ => rfl
  have F28 := fun_mk (st := sLW) l28 c28 k28
  have b28 := F28.binds (ps := ["polygon"]) fun _ _ _ _ _ _ us hl => match us, hl with | [_], _ => rfl
  have F29 := fun_mk (st := sDraws) l29 c29 k29
  have b29 := F29.binds (ps := ["_law_script", "_law_k"]) fun _ _ _ _ _ _ us hl => match us, hl with | [_, _], _ => rfl
  have F30 := fun_mk (st := sDraw) l30 c30 k30
  have b30 := F30.binds (ps := ["_law_draws_here", "_law_upto"]) fun _ _ _ _ _ _ us hl => match us, hl with | [_, _], _ => rfl
  have F31 := fun_mk (st := sLTurn) l31 c31 k31
  have b31 := F31.binds (ps := ["_law_first", "_law_second", "_law_third"]) fun _ _ _ _ _ _ us hl => match us, hl with | [_, _, _], _ => rfl
  have F32 := fun_mk (st := sHull) l32 c32 k32
  have b32 := F32.binds (ps := ["_law_points"]) fun _ _ _ _ _ _ us hl => match us, hl with | [_], _ => rfl
  have F33 := fun_mk (st := sConvex) l33 c33 k33
  have b33 := F33.binds (ps := ["_law_draws_here", "_law_most", "_law_wide"]) fun _ _ _ _ _ _ us hl => match us, hl with | [_, _, _], _ => rfl
  have F34 := fun_mk (st := sClean) l34 c34 k34
  have b34 := F34.binds (ps := ["_law_corners"]) fun _ _ _ _ _ _ us hl => match us, hl with | [_], _ => rfl
  have F35 := fun_mk (st := sSimple) l35 c35 k35
  have b35 := F35.binds (ps := ["_law_draws_here", "_law_most"]) fun _ _ _ _ _ _ us hl => match us, hl with | [_, _], _ => rfl
  have F36 := fun_mk (st := sDivi) l36 c36 k36
  have b36 := F36.binds (ps := ["_law_first", "_law_second"]) fun _ _ _ _ _ _ us hl => match us, hl with | [_, _], _ => rfl
  have F37 := fun_mk (st := sExp) l37 c37 k37
  have b37 := F37.binds (ps := ["_law_corners", "_law_most"]) fun _ _ _ _ _ _ us hl => match us, hl with | [_, _], _ => rfl
  have F38 := fun_mk (st := sLaw) l38 c38 k38
  refine ⟨PySem.W.fnOf "law" "law" (defArgs sLaw) (defBody sLaw) (defScope sLaw) .none kV38 dc38 pm38 an38 cd38 ct38, fun s v => .of_eq rfl, fun base _ _ => ?_⟩
  have GP : CoT l.prog w K mg base CP := ⟨⟨pp, fpc, _, ⟨pprop, pget, ptak, ⟨rest, prec⟩⟩, ok_polyCorners Fpc TP, bpc⟩⟩
  have C_is_integer : Cal l.prog w K mg base 1 "is_integer" ["value"] spIsInt := ⟨⟨f0, _, ok_isInt F0 n_isinstance n_int n_bool, PySem.W.mg_of X G a0, k0, b0⟩⟩
  have C_common_divisor : Cal l.prog w K mg base 1 "common_divisor" ["first", "second"] spGcd := ⟨⟨f1, _, ok_gcd F1 n_abs, PySem.W.mg_of X G a1, k1, b1⟩⟩
  have C_is_point : Cal l.prog w K mg base 2 "is_point" ["value"] spIsPoint := ⟨⟨f2, _, ok_isPoint F2 C_is_integer n_isinstance n_tuple n_len n_all, PySem.W.mg_of X G a2, k2, b2⟩⟩
  have C_check_direction : Cal l.prog w K mg base 3 "check_direction" ["value"] spChkDir := ⟨⟨f3, _, ok_chkDir F3 C_is_point, PySem.W.mg_of X G a3, k3, b3⟩⟩
  have C_cross_of : Cal l.prog w K mg base 1 "cross_of" ["first", "second"] spCross := ⟨⟨f4, _, ok_cross F4 , PySem.W.mg_of X G a4, k4, b4⟩⟩
  have C_dot_of : Cal l.prog w K mg base 1 "dot_of" ["first", "second"] spDot := ⟨⟨f5, _, ok_dot F5 , PySem.W.mg_of X G a5, k5, b5⟩⟩
  have C_difference : Cal l.prog w K mg base 1 "difference" ["end", "start"] spDiff := ⟨⟨f6, _, ok_diff F6 , PySem.W.mg_of X G a6, k6, b6⟩⟩
  have C_turn_of : Cal l.prog w K mg base 2 "turn_of" ["first", "second", "third"] spTurn := ⟨⟨f7, _, ok_turn F7 C_cross_of C_difference, PySem.W.mg_of X G a7, k7, b7⟩⟩
  have C_content_of : Cal l.prog w K mg base 2 "content_of" ["point"] spContent := ⟨⟨f8, _, ok_content F8 C_common_divisor, PySem.W.mg_of X G a8, k8, b8⟩⟩
  have C_check_points : Cal l.prog w K mg base 3 "check_points" ["value"] spChkPts := ⟨⟨f9, _, ok_chkPts F9 C_is_point n_isinstance n_list n_tuple n_enumerate, PySem.W.mg_of X G a9, k9, b9⟩⟩
  have C_triples : GenF K mg "triples" sTriples ["corners"] := ⟨⟨f10, _, F10, PySem.W.mg_of X G a10, b10⟩⟩
  have C_check_turns : Cal l.prog w K mg base 3 "check_turns" ["corners"] spChkTurns := ⟨⟨f11, _, ok_chkTurns F11 C_triples C_turn_of n_len n_enumerate, PySem.W.mg_of X G a11, k11, b11⟩⟩
  have C_is_on : Cal l.prog w K mg base 3 "is_on" ["point", "start", "end"] spIsOn := ⟨⟨f12, _, ok_isOn F12 C_turn_of, PySem.W.mg_of X G a12, k12, b12⟩⟩
  have C_have_common_point : Cal l.prog w K mg base 4 "have_common_point" ["first", "second"] spCommon := ⟨⟨f13, _, ok_common F13 C_turn_of C_is_on, PySem.W.mg_of X G a13, k13, b13⟩⟩
  have C_edges_of : Cal l.prog w K mg base 1 "edges_of" ["corners"] spEdges := ⟨⟨f14, _, ok_edges F14 n_len n_enumerate, PySem.W.mg_of X G a14, k14, b14⟩⟩
  have C_check_crossings : Cal l.prog w K mg base 5 "check_crossings" ["corners"] spCross2 := ⟨⟨f15, _, ok_cross2 F15 C_edges_of C_have_common_point n_len n_range, PySem.W.mg_of X G a15, k15, b15⟩⟩
  have C_area_of : Cal l.prog w K mg base 2 "area_of" ["corners"] spArea := ⟨⟨f16, _, ok_area F16 C_edges_of C_cross_of n_sum, PySem.W.mg_of X G a16, k16, b16⟩⟩
  have C_arranged : Cal l.prog w K mg base 3 "arranged" ["corners"] spArr := ⟨⟨f17, _, ok_arr F17 C_area_of n_list n_min n_tuple, PySem.W.mg_of X G a17, k17, b17⟩⟩
  have C_checked_corners : Cal l.prog w K mg base 6 "checked_corners" ["corners", "limit"] spChecked := ⟨⟨f18, _, ok_checked F18 C_check_points C_check_turns C_check_crossings C_arranged n_isinstance n_list n_tuple n_len mmin, PySem.W.mg_of X G a18, k18, b18⟩⟩
  have C_first_reflex : Cal l.prog w K mg base 3 "first_reflex" ["corners"] spReflex := ⟨⟨f19, _, ok_reflex F19 C_triples C_turn_of n_len n_enumerate, PySem.W.mg_of X G a19, k19, b19⟩⟩
  have C_check_polygon : Cal l.prog w K mg base 1 "check_polygon" ["value"] (spChkPoly CP) := ⟨⟨f20, _, ok_chkPoly F20 TP n_isinstance, PySem.W.mg_of X G a20, k20, b20⟩⟩
  have C_width_along : Cal l.prog w K mg base 2 "width_along" ["corners", "direction"] spWAl := ⟨⟨f21, _, ok_wAl F21 C_dot_of n_max n_min, PySem.W.mg_of X G a21, k21, b21⟩⟩
  have C_width_in : Cal l.prog w K mg base 4 "width_in" ["polygon", "direction"] (spWIn CP) := ⟨⟨f22, _, ok_wIn F22 TP GP C_check_polygon C_check_direction C_width_along, PySem.W.mg_of X G a22, k22, b22⟩⟩
  have C_widest_pair : Cal l.prog w K mg base 2 "widest_pair" ["corners"] spWidest := ⟨⟨f23, _, ok_widest F23 C_difference C_cross_of n_enumerate n_abs, PySem.W.mg_of X G a23, k23, b23⟩⟩
  have C_box_of : Cal l.prog w K mg base 2 "box_of" ["certificate", "bound"] spBox := ⟨⟨f24, _, ok_box F24 C_cross_of C_dot_of n_abs, PySem.W.mg_of X G a24, k24, b24⟩⟩
  have C_box_directions : GenC l.prog w K mg base 1 "box_directions" ["certificate", "box"] spBoxD := ⟨⟨f25, _, ok_boxD F25 n_range, PySem.W.mg_of X G a25, k25, b25⟩⟩
  have PB : PrT l.prog w K mg base CB := ⟨⟨fbp, _, ok_baProd Fbp TB C_dot_of, ⟨bprod, ibp, kbp⟩, bbp⟩⟩
  have MB : BaM l.prog w K mg base CB := ⟨⟨fbi, _, ⟨bmk, binit, ibi, bkc⟩, ok_baInit Fbi TB, bbi⟩, ⟨fbr, _, ⟨bred, ibr, kbr⟩, ok_baRed Fbr TB PB, bbr⟩⟩
  have C_certificate_for : Cal l.prog w K mg base 4 "certificate_for" ["corners"] spCert := ⟨⟨f26, _, ok_cert F26 TB MB C_widest_pair, PySem.W.mg_of X G a26, k26, b26⟩⟩
  have C_is_normalized : Cal l.prog w K mg base 3 "is_normalized" ["direction"] spNorm := ⟨⟨f27, _, ok_norm F27 C_content_of, PySem.W.mg_of X G a27, k27, b27⟩⟩
  have C_least_width : Cal l.prog w K mg base 5 "least_width" ["polygon"] (spLW CP) := ⟨⟨f28, _, ok_LW F28 TP GP C_check_polygon C_certificate_for C_width_along C_box_of C_box_directions C_is_normalized n_min n_list n_sorted, PySem.W.mg_of X G a28, k28, b28⟩⟩
  have C__law_draws : Cal l.prog w K mg base 1 "_law_draws" ["_law_script", "_law_k"] (spDraws K) := ⟨⟨f29, _, ok_draws F29 n_len n_int, PySem.W.mg_of X G a29, k29, b29⟩⟩
  have C__law_draw : Cal l.prog w K mg base 1 "_law_draw" ["_law_draws_here", "_law_upto"] spDraw := ⟨⟨f30, _, ok_draw F30 , PySem.W.mg_of X G a30, k30, b30⟩⟩
  have C__law_turn : Cal l.prog w K mg base 1 "_law_turn" ["_law_first", "_law_second", "_law_third"] spLTurn := ⟨⟨f31, _, ok_lTurn F31 , PySem.W.mg_of X G a31, k31, b31⟩⟩
  have C__law_hull : Cal l.prog w K mg base 2 "_law_hull" ["_law_points"] spHull := ⟨⟨f32, _, ok_hull F32 C__law_turn n_sorted n_set n_len, PySem.W.mg_of X G a32, k32, b32⟩⟩
  have C__law_convex : Cal l.prog w K mg base 3 "_law_convex" ["_law_draws_here", "_law_most", "_law_wide"] spConvex := ⟨⟨f33, _, ok_convex F33 C__law_draw C__law_hull n_range, PySem.W.mg_of X G a33, k33, b33⟩⟩
  have C__law_cleaned : Cal l.prog w K mg base 2 "_law_cleaned" ["_law_corners"] spClean := ⟨⟨f34, _, ok_clean F34 C__law_turn n_range n_len, PySem.W.mg_of X G a34, k34, b34⟩⟩
  have C__law_simple : Cal l.prog w K mg base 3 "_law_simple" ["_law_draws_here", "_law_most"] spSimple := ⟨⟨f35, _, ok_simple F35 C__law_draw C__law_cleaned n_range, PySem.W.mg_of X G a35, k35, b35⟩⟩
  have C__law_divisor : Cal l.prog w K mg base 1 "_law_divisor" ["_law_first", "_law_second"] spGcd := ⟨⟨f36, _, ok_divi F36 n_abs, PySem.W.mg_of X G a36, k36, b36⟩⟩
  have C__law_expected : Cal l.prog w K mg base 2 "_law_expected" ["_law_corners", "_law_most"] spExp := ⟨⟨f37, _, ok_exp F37 C__law_divisor n_range n_max n_min n_sorted, PySem.W.mg_of X G a37, k37, b37⟩⟩
  have MP : PoM l.prog w K mg base CP := ⟨⟨fpi, _, ⟨pmk, pinit, ipi, pkc⟩, ok_polyInit Fpi TP C_checked_corners C_first_reflex, bpi⟩⟩
  exact ok_law F38 TP MP C__law_draws C__law_convex C_width_in C_least_width C__law_expected C__law_simple C__law_hull n_range n_max n_min n_len
end Lat

open PySem PySem.W PyProof.Rows
set_option Elab.async false in
set_option maxRecDepth 100000 in
set_option maxHeartbeats 0 in
theorem PySem.Challenge.cw_latticeshapes_k31_whole_least_widths_of_holds : PySem.Challenge.rw_latticeshapes_k31_whole_least_widths_of.Holds := by
  w_on; o_law; k_head; (case hw => w_witness2)
  k_fill
  refine L2.walk_of (l := PySem.Challenge.rw_latticeshapes_k31_whole_least_widths_of) (n := 63) (k := 9) (x := "_law_script") (CX := fun _ => L2.CX0) (sp := fun w => Lat.spLaw _) rfl (by decide) rfl ⟨rfl, by decide, by decide⟩ (fun w h Y => PySem.W.kIn_of Y) ?F (fun _ _ a ns hl _ hS => ⟨a, ns, rfl, hS, hl, fun _ => rfl⟩) (fun _ _ _ _ _ h => h)
  case F =>
    intro w mg fa h KX G hmg
    refine' Lat.all_mk KX G hmg ?aP ?aB ?aM ?z_isinstance ?z_int ?z_bool ?z_abs ?z_tuple ?z_len ?z_all ?z_list ?z_enumerate ?z_range ?z_sum ?z_min ?z_max ?z_sorted ?z_set ?a0 ?l0 ?c0 ?k0 ?a1 ?l1 ?c1 ?k1 ?a2 ?l2 ?c2 ?k2 ?a3 ?l3 ?c3 ?k3 ?a4 ?l4 ?c4 ?k4 ?a5 ?l5 ?c5 ?k5 ?a6 ?l6 ?c6 ?k6 ?a7 ?l7 ?c7 ?k7 ?a8 ?l8 ?c8 ?k8 ?a9 ?l9 ?c9 ?k9 ?a10 ?l10 ?c10 ?k10 ?a11 ?l11 ?c11 ?k11 ?a12 ?l12 ?c12 ?k12 ?a13 ?l13 ?c13 ?k13 ?a14 ?l14 ?c14 ?k14 ?a15 ?l15 ?c15 ?k15 ?a16 ?l16 ?c16 ?k16 ?a17 ?l17 ?c17 ?k17 ?a18 ?l18 ?c18 ?k18 ?a19 ?l19 ?c19 ?k19 ?a20 ?l20 ?c20 ?k20 ?a21 ?l21 ?c21 ?k21 ?a22 ?l22 ?c22 ?k22 ?a23 ?l23 ?c23 ?k23 ?a24 ?l24 ?c24 ?k24 ?a25 ?l25 ?c25 ?k25 ?a26 ?l26 ?c26 ?k26 ?a27 ?l27 ?c27 ?k27 ?a28 ?l28 ?c28 ?k28 ?a29 ?l29 ?c29 ?k29 ?a30 ?l30 ?c30 ?k30 ?a31 ?l31 ?c31 ?k31 ?a32 ?l32 ?c32 ?k32 ?a33 ?l33 ?c33 ?k33 ?a34 ?l34 ?c34 ?k34 ?a35 ?l35 ?c35 ?k35 ?a36 ?l36 ?c36 ?k36 ?a37 ?l37 ?c37 ?k37 ?a38 ?l38 ?c38 ?k38 ?pinit ?lpi ?cpi ?kpi ?ipi ?pprop ?prec ?pget ?ptak ?lpc ?cpc ?kpc ?ppg ?phd ?ppo ?psa ?pmk ?pkc ?bpg ?bhd ?bpo ?bsa ?bmk ?bkc ?pnK ?pnR ?prd ?pga ?pmx ?phC ?phG ?phT ?phO ?binit ?lbi ?cbi ?kbi ?ibi ?bprod ?lbp ?cbp ?kbp ?ibp ?bred ?lbr ?cbr ?kbr ?ibr ?bna ?bnb ?bnu ?bnv
    (case aP => k_is)
    (case aB => k_is)
    (case aM => k_is)
    (case z_isinstance => k_is)
    (case z_int => k_is)
    (case z_bool => k_is)
    (case z_abs => k_is)
    (case z_tuple => k_is)
    (case z_len => k_is)
    (case z_all => k_is)
    (case z_list => k_is)
    (case z_enumerate => k_is)
    (case z_range => k_is)
    (case z_sum => k_is)
    (case z_min => k_is)
    (case z_max => k_is)
    (case z_sorted => k_is)
    (case z_set => k_is)
    (case a0 => k_is)
    (case l0 => k_is)
    (case c0 => k_is)
    (case k0 => k_is)
    (case a1 => k_is)
    (case l1 => k_is)
    (case c1 => k_is)
    (case k1 => k_is)
    (case a2 => k_is)
    (case l2 => k_is)
    (case c2 => k_is)
    (case k2 => k_is)
    (case a3 => k_is)
    (case l3 => k_is)
    (case c3 => k_is)
    (case k3 => k_is)
    (case a4 => k_is)
    (case l4 => k_is)
    (case c4 => k_is)
    (case k4 => k_is)
    (case a5 => k_is)
    (case l5 => k_is)
    (case c5 => k_is)
    (case k5 => k_is)
    (case a6 => k_is)
    (case l6 => k_is)
    (case c6 => k_is)
    (case k6 => k_is)
    (case a7 => k_is)
    (case l7 => k_is)
    (case c7 => k_is)
    (case k7 => k_is)
    (case a8 => k_is)
    (case l8 => k_is)
    (case c8 => k_is)
    (case k8 => k_is)
    (case a9 => k_is)
    (case l9 => k_is)
    (case c9 => k_is)
    (case k9 => k_is)
    (case a10 => k_is)
    (case l10 => k_is)
    (case c10 => k_is)
    (case k10 => k_is)
    (case a11 => k_is)
    (case l11 => k_is)
    (case c11 => k_is)
    (case k11 => k_is)
    (case a12 => k_is)
    (case l12 => k_is)
    (case c12 => k_is)
    (case k12 => k_is)
    (case a13 => k_is)
    (case l13 => k_is)
    (case c13 => k_is)
    (case k13 => k_is)
    (case a14 => k_is)
    (case l14 => k_is)
    (case c14 => k_is)
    (case k14 => k_is)
    (case a15 => k_is)
    (case l15 => k_is)
    (case c15 => k_is)
    (case k15 => k_is)
    (case a16 => k_is)
    (case l16 => k_is)
    (case c16 => k_is)
    (case k16 => k_is)
    (case a17 => k_is)
    (case l17 => k_is)
    (case c17 => k_is)
    (case k17 => k_is)
    (case a18 => k_is)
    (case l18 => k_is)
    (case c18 => k_is)
    (case k18 => k_is)
    (case a19 => k_is)
    (case l19 => k_is)
    (case c19 => k_is)
    (case k19 => k_is)
    (case a20 => k_is)
    (case l20 => k_is)
    (case c20 => k_is)
    (case k20 => k_is)
    (case a21 => k_is)
    (case l21 => k_is)
    (case c21 => k_is)
    (case k21 => k_is)
    (case a22 => k_is)
    (case l22 => k_is)
    (case c22 => k_is)
    (case k22 => k_is)
    (case a23 => k_is)
    (case l23 => k_is)
    (case c23 => k_is)
    (case k23 => k_is)
    (case a24 => k_is)
    (case l24 => k_is)
    (case c24 => k_is)
    (case k24 => k_is)
    (case a25 => k_is)
    (case l25 => k_is)
    (case c25 => k_is)
    (case k25 => k_is)
    (case a26 => k_is)
    (case l26 => k_is)
    (case c26 => k_is)
    (case k26 => k_is)
    (case a27 => k_is)
    (case l27 => k_is)
    (case c27 => k_is)
    (case k27 => k_is)
    (case a28 => k_is)
    (case l28 => k_is)
    (case c28 => k_is)
    (case k28 => k_is)
    (case a29 => k_is)
    (case l29 => k_is)
    (case c29 => k_is)
    (case k29 => k_is)
    (case a30 => k_is)
    (case l30 => k_is)
    (case c30 => k_is)
    (case k30 => k_is)
    (case a31 => k_is)
    (case l31 => k_is)
    (case c31 => k_is)
    (case k31 => k_is)
    (case a32 => k_is)
    (case l32 => k_is)
    (case c32 => k_is)
    (case k32 => k_is)
    (case a33 => k_is)
    (case l33 => k_is)
    (case c33 => k_is)
    (case k33 => k_is)
    (case a34 => k_is)
    (case l34 => k_is)
    (case c34 => k_is)
    (case k34 => k_is)
    (case a35 => k_is)
    (case l35 => k_is)
    (case c35 => k_is)
    (case k35 => k_is)
    (case a36 => k_is)
    (case l36 => k_is)
    (case c36 => k_is)
    (case k36 => k_is)
    (case a37 => k_is)
    (case l37 => k_is)
    (case c37 => k_is)
    (case k37 => k_is)
    (case a38 => k_is)
    (case l38 => k_is)
    (case c38 => k_is)
    (case k38 => k_is)
    (case pinit => k_is)
    (case lpi => k_is)
    (case cpi => k_is)
    (case kpi => k_is)
    (case ipi => k_is)
    (case pprop => k_is)
    (case prec => k_is)
    (case pget => k_is)
    (case ptak => k_is)
    (case lpc => k_is)
    (case cpc => k_is)
    (case kpc => k_is)
    (case ppg => k_is)
    (case phd => k_is)
    (case ppo => k_is)
    (case psa => k_is)
    (case pmk => k_is)
    (case pkc => k_is)
    (case bpg => k_is)
    (case bhd => k_is)
    (case bpo => k_is)
    (case bsa => k_is)
    (case bmk => k_is)
    (case bkc => k_is)
    (case pnK => k_is)
    (case pnR => k_is)
    (case prd => k_is)
    (case pga => k_is)
    (case pmx => k_is)
    (case phC => k_is)
    (case phG => k_is)
    (case phT => k_is)
    (case phO => k_is)
    (case binit => k_is)
    (case lbi => k_is)
    (case cbi => k_is)
    (case kbi => k_is)
    (case ibi => k_is)
    (case bprod => k_is)
    (case lbp => k_is)
    (case cbp => k_is)
    (case kbp => k_is)
    (case ibp => k_is)
    (case bred => k_is)
    (case lbr => k_is)
    (case cbr => k_is)
    (case kbr => k_is)
    (case ibr => k_is)
    (case bna => k_is)
    (case bnb => k_is)
    (case bnu => k_is)
    (case bnv => k_is)

