import PyProof.Rows.All
import Wide.All
import OpenK.AllK
import Wide.FinOn
import HandS.ForMost
import HandS.ForExc
import HandS.Lambda
import HandS.Zip
import HandS.Zip0
import HandS.Walk
import HandS.Style
import HandS.Flow
import HandS.StrMore
import HandS.IsInst
import HandS.Defaults
import HandS.Head0
import HandS.Head1
import HandS.Head2
import HandS.HeadHook1
import HandS.HeadHook2
import HandS.HeadHook3
import HandS.HeadHook4
import HandS.HeadWalk
import HandS.EndTab
import HandS.TupAny
import HandS.Evl
import KE.GoesMore
import KE.GoesEnum
import KE.GoesEnumKw
import PySem.Challenge.RW_mirrorpress_k55_whole_read_by_walking
section
set_option autoImplicit false
/-! the words: presses, mirrors, spreads, blocks -/
namespace Mir
abbrev Wd := List Nat
/-- one letter spread by x -/
def bk (x y : Nat) : Wd := if y = x then [x] else [x, y]
def phi (x : Nat) : Wd → Wd
  | [] => []
  | y :: w => bk x y ++ phi x w
def M : Wd → Wd
  | [] => []
  | x :: v => phi x (M v) ++ [x]
def psi : Wd → Wd → Wd
  | [], w => w
  | x :: u, w => phi x (psi u w)
/-- how many letters -/
def L (v : Wd) : Nat := (M v).length

theorem phi_nil (x : Nat) : phi x [] = [] := rfl
theorem phi_cons (x y : Nat) (w : Wd) : phi x (y :: w) = bk x y ++ phi x w := rfl
theorem phi_one (x y : Nat) : phi x [y] = bk x y := by simp [phi]
theorem phi_app (x : Nat) (a b : Wd) : phi x (a ++ b) = phi x a ++ phi x b := by
  induction a with
  | nil => rfl
  | cons y a ih => rw [List.cons_append, phi_cons, phi_cons, ih, List.append_assoc]
theorem psi_nil (u : Wd) : psi u [] = [] := by
  induction u with
  | nil => rfl
  | cons x u ih => show phi x (psi u []) = []; rw [ih]; rfl
theorem psi_app (u a b : Wd) : psi u (a ++ b) = psi u a ++ psi u b := by
  induction u with
  | nil => rfl
  | cons x u ih => show phi x (psi u (a ++ b)) = phi x (psi u a) ++ phi x (psi u b); rw [ih, phi_app]
theorem psi_comp (u t w : Wd) : psi (u ++ t) w = psi u (psi t w) := by
  induction u with
  | nil => rfl
  | cons x u ih => show phi x (psi (u ++ t) w) = phi x (psi u (psi t w)); rw [ih]
theorem M_app (u t : Wd) : M (u ++ t) = psi u (M t) ++ M u := by
  induction u with
  | nil => simp [psi, M]
  | cons x u ih =>
    show phi x (M (u ++ t)) ++ [x] = phi x (psi u (M t)) ++ (phi x (M u) ++ [x])
    rw [ih, phi_app, List.append_assoc]
theorem M_one (x : Nat) : M [x] = [x] := by simp [M, phi]
theorem M_snoc (v : Wd) (x : Nat) : M (v ++ [x]) = psi v [x] ++ M v := by rw [M_app, M_one]
theorem bk_len (x y : Nat) : 1 ≤ (bk x y).length := by unfold bk; split <;> simp
theorem bk_hd (x y : Nat) : ∃ r, bk x y = x :: r := by unfold bk; split <;> exact ⟨_, rfl⟩
/-- what is spread, and x behind, begins with x -/
theorem spr_hd (x : Nat) (w : Wd) : ∃ r, phi x w ++ [x] = x :: r := by
  cases w with
  | nil => exact ⟨[], rfl⟩
  | cons y w =>
    obtain ⟨r, e⟩ := bk_hd x y
    exact ⟨r ++ phi x w ++ [x], by rw [phi_cons, e]; simp⟩
theorem spr_hd2 (x : Nat) (w : Wd) (B : Wd) : ∃ r, phi x w ++ x :: B = x :: r := by
  obtain ⟨r, e⟩ := spr_hd x w
  exact ⟨r ++ B, by rw [show phi x w ++ x :: B = (phi x w ++ [x]) ++ B by simp, e]; rfl⟩
theorem phi_len (x : Nat) (w : Wd) : w.length ≤ (phi x w).length := by
  induction w with
  | nil => simp
  | cons y w ih => rw [phi_cons, List.length_append, List.length_cons]; have := bk_len x y; omega
theorem psi_len (u w : Wd) : w.length ≤ (psi u w).length := by
  induction u with
  | nil => exact Nat.le_refl _
  | cons x u ih => exact Nat.le_trans ih (phi_len x _)
theorem spr_rev (x : Nat) (w : Wd) : (phi x w ++ [x]).reverse = phi x w.reverse ++ [x] := by
  induction w with
  | nil => rfl
  | cons y w ih =>
    rw [phi_cons, List.append_assoc, List.reverse_append, ih, List.reverse_cons, phi_app, phi_one]
    unfold bk
    split
    · rename_i h; simp
    · simp
theorem M_pal (v : Wd) : (M v).reverse = M v := by
  induction v with
  | nil => rfl
  | cons x v ih => show (phi x (M v) ++ [x]).reverse = _; rw [spr_rev, ih]; rfl
/-- M u ++ [y] begins what stands from a block of y on -/
theorem blk_pre (u : Wd) (y : Nat) (b : Wd) : M u ++ [y] <+: psi u (y :: b) ++ M u := by
  induction u with
  | nil => exact ⟨b, by simp [psi, M]⟩
  | cons x u ih =>
    obtain ⟨r, e⟩ := ih
    show phi x (M u) ++ [x] ++ [y] <+: phi x (psi u (y :: b)) ++ (phi x (M u) ++ [x])
    rw [← List.append_assoc, ← phi_app, ← e, phi_app, phi_app, phi_one]
    obtain ⟨q, eq⟩ := spr_hd x r
    rw [List.append_assoc _ (phi x r) [x], eq]
    unfold bk
    split
    · rename_i h; subst h; exact ⟨q, by simp⟩
    · exact ⟨x :: q, by simp⟩
theorem blk_pre0 (u w : Wd) : M u <+: psi u w ++ M u := by
  cases w with
  | nil => rw [psi_nil]; exact List.prefix_refl _
  | cons y b => exact List.IsPrefix.trans (List.prefix_append _ _) (blk_pre u y b)
theorem M_pre (u t : Wd) : M u <+: M (u ++ t) := by rw [M_app]; exact blk_pre0 _ _
theorem M_pre_snoc (v : Wd) (x : Nat) : M v ++ [x] <+: M (v ++ [x]) := by rw [M_snoc]; exact blk_pre v x []
theorem L_app (u t : Wd) : L (u ++ t) = (psi u (M t)).length + L u := by unfold L; rw [M_app, List.length_append]
theorem L_nil : L [] = 0 := rfl
theorem L_mono (u t : Wd) : L u ≤ L (u ++ t) := by rw [L_app]; omega
/-- the growth of x behind v -/
def gr (v : Wd) (x : Nat) : Nat := (psi v [x]).length
theorem L_snoc (v : Wd) (x : Nat) : L (v ++ [x]) = gr v x + L v := by rw [L_app, M_one]; rfl
theorem gr_pos (v : Wd) (x : Nat) : 1 ≤ gr v x := psi_len v [x]
theorem L_lt_snoc (v : Wd) (x : Nat) : L v < L (v ++ [x]) := by have := gr_pos v x; rw [L_snoc]; omega
theorem L_ge (v : Wd) : v.length ≤ L v := by
  unfold L
  induction v with
  | nil => simp
  | cons x v ih =>
    show _ ≤ (phi x (M v) ++ [x]).length
    have h1 := phi_len x (M v)
    simp only [List.length_append, List.length_cons, List.length_nil]
    omega
/-- a new letter -/
theorem psi_new (v : Wd) (x : Nat) (h : x ∉ v) : psi v [x] = M v ++ [x] := by
  induction v with
  | nil => rfl
  | cons y v ih =>
    have h1 : x ≠ y := fun e => h (by simp [e])
    have h2 : x ∉ v := fun e => h (by simp [e])
    show phi y (psi v [x]) = phi y (M v) ++ [y] ++ [x]
    rw [ih h2, phi_app, phi_one]
    unfold bk
    rw [if_neg h1]; simp
/-- a letter that was pressed before -/
theorem psi_old (s r : Wd) (x : Nat) (h : x ∉ r) : M (s ++ x :: r) = psi (s ++ x :: r) [x] ++ M s := by
  have e : s ++ x :: r = (s ++ [x]) ++ r := by simp
  have z : psi [x] [x] = [x] := by simp [psi, phi, bk]
  have z2 : psi (s ++ [x]) [x] = psi s [x] := by rw [psi_comp, z]
  rw [e, M_app, psi_comp (s ++ [x]) r [x], psi_new r x h, psi_app, M_snoc, z2]
  simp
theorem gr_new (v : Wd) (x : Nat) (h : x ∉ v) : gr v x = L v + 1 := by unfold gr L; rw [psi_new v x h]; simp
theorem gr_old (s r : Wd) (x : Nat) (h : x ∉ r) : L (s ++ x :: r) = gr (s ++ x :: r) x + L s := by
  unfold gr L; rw [psi_old s r x h, List.length_append]
theorem copy_new (v : Wd) (x : Nat) (h : x ∉ v) : M (v ++ [x]) = M v ++ x :: M v := by rw [M_snoc, psi_new v x h]; simp
theorem copy_old (s r : Wd) (x : Nat) (h : x ∉ r) : M (s ++ x :: r ++ [x]) = M (s ++ x :: r) ++ (M (s ++ x :: r)).drop (L s) := by
  have e : (M (s ++ x :: r ++ [x])).reverse = (psi (s ++ x :: r) [x] ++ M (s ++ x :: r)).reverse := by rw [M_snoc]
  rw [M_pal, List.reverse_append, M_pal] at e
  rw [e]
  congr 1
  have e2 : psi (s ++ x :: r) [x] = (M (s ++ x :: r)).take (gr (s ++ x :: r) x) := by
    conv => rhs; rw [psi_old s r x h]
    unfold gr
    simp
  rw [e2, List.reverse_take, M_pal]
  congr 1
  have e3 := gr_old s r x h
  unfold L at e3 ⊢
  omega
theorem gr_le (v : Wd) (x : Nat) : gr v x ≤ L v + 1 := by
  have h := blk_pre v x []
  have h1 := h.length_le
  by_cases hx : x ∈ v
  · obtain ⟨s, r, e, hr⟩ : ∃ s r, v = s ++ x :: r ∧ x ∉ r := by
      clear h h1
      induction v with
      | nil => simp at hx
      | cons y v ih =>
        by_cases h2 : x ∈ v
        · obtain ⟨s, r, e, hr⟩ := ih h2
          exact ⟨y :: s, r, by rw [e]; rfl, hr⟩
        · rcases List.mem_cons.mp hx with e | e
          · exact ⟨[], v, by rw [e]; rfl, h2⟩
          · exact absurd e h2
    have h2 := gr_old s r x hr
    rw [e]; omega
  · rw [gr_new v x hx]; omega
end Mir
end
section
set_option autoImplicit false
namespace Mir
/-! growths, digits, block starts -/
def gs : Wd → Wd → List Nat
  | _, [] => []
  | u, x :: t => gr u x :: gs (u ++ [x]) t
theorem gs_len : ∀ (u t : Wd), (gs u t).length = t.length
  | _, [] => rfl
  | u, x :: t => by simp [gs, gs_len (u ++ [x]) t]
theorem gs_app : ∀ (u a b : Wd), gs u (a ++ b) = gs u a ++ gs (u ++ a) b
  | u, [], b => by simp [gs]
  | u, x :: a, b => by
    show gr u x :: gs (u ++ [x]) (a ++ b) = gr u x :: gs (u ++ [x]) a ++ gs (u ++ x :: a) b
    rw [gs_app (u ++ [x]) a b]
    simp
theorem gs_snoc (u t : Wd) (x : Nat) : gs u (t ++ [x]) = gs u t ++ [gr (u ++ t) x] := by rw [gs_app]; rfl
theorem gs_sum : ∀ (u t : Wd), (gs u t).sum + L u = L (u ++ t)
  | u, [] => by simp [gs]
  | u, x :: t => by
    have h := gs_sum (u ++ [x]) t
    show (gr u x :: gs (u ++ [x]) t).sum + L u = L (u ++ x :: t)
    rw [List.sum_cons]
    rw [L_snoc] at h
    have e : u ++ [x] ++ t = u ++ x :: t := by simp
    rw [e] at h
    omega
theorem gs_sum0 (t : Wd) : (gs [] t).sum = L t := by have h := gs_sum [] t; rw [L_nil] at h; simpa using h
def dg : List Nat → Nat → List Nat
  | [], _ => []
  | g :: r, n => if g ≤ n then 1 :: dg r (n - g) else 0 :: dg r n
def digs (g : List Nat) (n : Nat) : List Nat := (dg g.reverse n).reverse
theorem dg_len : ∀ (g : List Nat) (n : Nat), (dg g n).length = g.length
  | [], _ => rfl
  | g :: r, n => by unfold dg; split <;> simp [dg_len r]
theorem digs_len (g : List Nat) (n : Nat) : (digs g n).length = g.length := by simp [digs, dg_len]
theorem digs_snoc (g : List Nat) (y n : Nat) : digs (g ++ [y]) n = if y ≤ n then digs g (n - y) ++ [1] else digs g n ++ [0] := by
  unfold digs
  rw [List.reverse_append]
  show (if y ≤ n then 1 :: dg g.reverse (n - y) else 0 :: dg g.reverse n).reverse = _
  split <;> simp
def val : List Nat → List Nat → Nat
  | g :: gs, d :: ds => (if d = 1 then g else 0) + val gs ds
  | _, _ => 0
theorem val_app : ∀ (g d g' d' : List Nat), g.length = d.length → val (g ++ g') (d ++ d') = val g d + val g' d'
  | [], [], g', d', _ => by simp [val]
  | g :: gr, d :: dr, g', d', h => by
    have h2 : gr.length = dr.length := by simpa using h
    show (if d = 1 then g else 0) + val (gr ++ g') (dr ++ d') = (if d = 1 then g else 0) + val gr dr + val g' d'
    rw [val_app gr dr g' d' h2]
    omega
  | [], d :: dr, _, _, h => by simp at h
  | g :: gr, [], _, _, h => by simp at h
/-- where the n-th block by u begins -/
def bs (u t : Wd) (n : Nat) : Nat := (psi u ((M t).take n)).length
theorem bs_zero (u t : Wd) : bs u t 0 = 0 := by simp [bs, psi_nil]
theorem bs_nil (t : Wd) (n : Nat) (h : n ≤ L t) : bs [] t n = n := by
  unfold bs
  show ((M t).take n).length = n
  rw [List.length_take]
  unfold L at h
  omega
theorem bs_end (u t : Wd) : bs u t (L t) + L u = L (u ++ t) := by
  rw [L_app]; unfold bs L; rw [List.take_length]
/-- below L t nothing but M t counts -/
theorem take_pre (t : Wd) (x : Nat) (n : Nat) (h : n ≤ L t) : (M (t ++ [x])).take n = (M t).take n := by
  obtain ⟨r, e⟩ := M_pre t [x]
  rw [← e]
  exact List.take_append_of_le_length h
theorem take_suf (t : Wd) (x : Nat) (n : Nat) : (M (t ++ [x])).take (gr t x + n) = psi t [x] ++ (M t).take n := by
  rw [M_snoc]
  unfold gr
  rw [List.take_append, List.take_of_length_le (by omega)]
  congr 2
  omega
theorem bs_lo (u t : Wd) (x : Nat) (n : Nat) (h : n ≤ L t) : bs u (t ++ [x]) n = bs u t n := by unfold bs; rw [take_pre t x n h]
theorem bs_hi (u t : Wd) (x : Nat) (n : Nat) : bs u (t ++ [x]) (gr t x + n) = gr (u ++ t) x + bs u t n := by
  unfold bs
  rw [take_suf, psi_app, List.length_append]
  congr 1
  unfold gr
  rw [psi_comp]
theorem bs_step (u t : Wd) (n : Nat) (y : Nat) (h : (M t)[n]? = some y) : bs u t (n + 1) = bs u t n + gr u y := by
  unfold bs gr
  rw [List.take_add_one, h]
  simp [psi_app]
theorem bs_lt_succ (u t : Wd) (n : Nat) (h : n < L t) : bs u t n < bs u t (n + 1) := by
  have e : (M t)[n]? = some ((M t)[n]'h) := List.getElem?_eq_getElem h
  rw [bs_step u t n _ e]
  have := gr_pos u ((M t)[n]'h)
  omega
theorem bs_lt (u t : Wd) : ∀ (m n : Nat), n < m → m ≤ L t → bs u t n < bs u t m
  | 0, n, h, _ => by omega
  | m + 1, n, h, hm => by
    have h1 := bs_lt_succ u t m (by omega)
    by_cases e : n = m
    · subst e; exact h1
    · exact Nat.lt_trans (bs_lt u t m n (by omega) (by omega)) h1
theorem bs_le_end (u t : Wd) (n : Nat) (h : n ≤ L t) : bs u t n + L u ≤ L (u ++ t) := by
  have e := bs_end u t
  by_cases h2 : n = L t
  · subst h2; omega
  · have := bs_lt u t (L t) n (by omega) (Nat.le_refl _); omega
/-- a block's start, by digits -/
theorem snoc_ind {P : Wd → Prop} (h0 : P []) (hs : ∀ t x, P t → P (t ++ [x])) (t : Wd) : P t := by
  have h : ∀ r : Wd, P r.reverse := by
    intro r
    induction r with
    | nil => exact h0
    | cons x r ih => rw [List.reverse_cons]; exact hs _ x ih
  have := h t.reverse
  rwa [List.reverse_reverse] at this
theorem block_start (u t : Wd) : ∀ n, n ≤ L t → val (gs u t) (digs (gs [] t) n) = bs u t n := by
  induction t using snoc_ind with
  | h0 =>
    intro n h
    have e : n = 0 := by rw [L_nil] at h; omega
    subst e
    simp [gs, digs, dg, val, bs_zero]
  | hs t x ih =>
    intro n h
    rw [gs_snoc, gs_snoc, digs_snoc, List.nil_append]
    rw [L_snoc] at h
    by_cases hx : gr t x ≤ n
    · rw [if_pos hx, val_app _ _ _ _ (by rw [digs_len, gs_len, gs_len]), ih _ (by omega)]
      obtain ⟨m, rfl⟩ : ∃ m, n = gr t x + m := ⟨n - gr t x, by omega⟩
      rw [bs_hi, Nat.add_sub_cancel_left]
      simp [val]
      omega
    · rw [if_neg hx, val_app _ _ _ _ (by rw [digs_len, gs_len, gs_len])]
      have h2 := gr_le t x
      rw [ih _ (by omega), bs_lo u t x n (by omega)]
      simp [val]
theorem val_digs (t : Wd) (n : Nat) (h : n ≤ L t) : val (gs [] t) (digs (gs [] t) n) = n := by
  rw [block_start [] t n h, bs_nil t n h]
/-- in which block a place is -/
structure InBlk (u t : Wd) (p q r : Nat) : Prop where
  eq : p = bs u t q + r
  le : q ≤ L t
  lo : ∀ y, (M t)[q]? = some y → r < gr u y
  hi : q = L t → r ≤ L u
theorem block_of (u t : Wd) : ∀ p, p ≤ L (u ++ t) → InBlk u t p (val (gs [] t) ((digs (gs [] (u ++ t)) p).drop u.length)) (val (gs [] u) ((digs (gs [] (u ++ t)) p).take u.length)) := by
  induction t using snoc_ind with
  | h0 =>
    intro p h
    rw [List.append_nil] at h ⊢
    have e1 : (digs (gs [] u) p).drop u.length = [] := List.drop_eq_nil_of_le (by rw [digs_len, gs_len]; exact Nat.le_refl _)
    have e2 : (digs (gs [] u) p).take u.length = digs (gs [] u) p := List.take_of_length_le (by rw [digs_len, gs_len]; exact Nat.le_refl _)
    rw [e1, e2, val_digs u p h]
    refine ⟨?_, ?_, fun y hy => ?_, fun _ => h⟩
    · simp [gs, val, bs_zero]
    · simp [gs, val]
    · simp [M] at hy
  | hs t x ih =>
    intro p h
    rw [← List.append_assoc] at h ⊢
    have lg : ∀ m, u.length ≤ (digs (gs [] (u ++ t)) m).length := fun m => by rw [digs_len, gs_len, List.length_append]; omega
    have ld : ∀ m, ((gs [] t).length = ((digs (gs [] (u ++ t)) m).drop u.length).length) := fun m => by rw [List.length_drop, digs_len, gs_len, gs_len, List.length_append]; omega
    rw [gs_snoc, List.nil_append, gs_snoc, List.nil_append, digs_snoc]
    rw [L_snoc] at h
    by_cases hx : gr (u ++ t) x ≤ p
    · rw [if_pos hx]
      obtain ⟨m, rfl⟩ : ∃ m, p = gr (u ++ t) x + m := ⟨p - gr (u ++ t) x, by omega⟩
      have B := ih m (by omega)
      rw [Nat.add_sub_cancel_left, List.drop_append_of_le_length (lg m), List.take_append_of_le_length (lg m), val_app _ _ _ _ (ld m)]
      have e1 : val [gr t x] [1] = gr t x := by simp [val]
      rw [e1]
      refine ⟨?_, ?_, fun y hy => ?_, fun hq => ?_⟩
      · rw [Nat.add_comm _ (gr t x), bs_hi]
        have := B.eq
        omega
      · rw [L_snoc]
        have := B.le
        omega
      · refine B.lo y ?_
        rw [M_snoc, List.getElem?_append_right (by unfold gr; omega)] at hy
        unfold gr at hy
        rw [Nat.add_sub_cancel] at hy
        exact hy
      · refine B.hi ?_
        rw [L_snoc] at hq
        omega
    · rw [if_neg hx]
      have hg := gr_le (u ++ t) x
      have B := ih p (by omega)
      rw [List.drop_append_of_le_length (lg p), List.take_append_of_le_length (lg p), val_app _ _ _ _ (ld p)]
      have e1 : val [gr t x] [0] = 0 := by simp [val]
      rw [e1, Nat.add_zero]
      have hq := B.le
      refine ⟨?_, ?_, fun y hy => ?_, fun hq2 => ?_⟩
      · rw [bs_lo u t x _ hq]
        exact B.eq
      · have := L_lt_snoc t x
        omega
      · by_cases hq3 : val (gs [] t) ((digs (gs [] (u ++ t)) p).drop u.length) < L t
        · refine B.lo y ?_
          obtain ⟨r, e⟩ := M_pre t [x]
          rw [← e, List.getElem?_append_left hq3] at hy
          exact hy
        · have hq4 : val (gs [] t) ((digs (gs [] (u ++ t)) p).drop u.length) = L t := by omega
          obtain ⟨r, e⟩ := M_pre_snoc t x
          rw [hq4, ← e, List.append_assoc] at hy
          unfold L at hy
          rw [List.getElem?_append_right (Nat.le_refl _), Nat.sub_self] at hy
          have hy2 : x = y := by simpa using hy
          subst hy2
          have e2 := B.eq
          rw [hq4] at e2
          have e3 : gr (u ++ t) x ≤ bs u t (L t) + gr u x := by
            have h5 := gr_le t x
            unfold gr at h5 ⊢
            rw [psi_comp]
            have h6 : psi t [x] <+: M t ++ [x] := by
              have a1 : psi t [x] <+: M (t ++ [x]) := by rw [M_snoc]; exact List.prefix_append _ _
              have a2 := M_pre_snoc t x
              rcases List.prefix_or_prefix_of_prefix a1 a2 with z | z
              · exact z
              · have := z.length_le
                have e7 : psi t [x] = M t ++ [x] := (z.eq_of_length (by simp; unfold L at h5; simp at this; omega)).symm
                rw [e7]; exact List.prefix_refl _
            obtain ⟨c, hc⟩ := h6
            unfold bs L
            rw [List.take_length, ← List.length_append, ← psi_app, ← hc, psi_app, List.length_append]
            omega
          omega
      · have := L_lt_snoc t x
        omega
/-- the number of the block is the only one -/
theorem InBlk.unique {u t : Wd} {p q r q' r' : Nat} (a : InBlk u t p q r) (b : InBlk u t p q' r') : q = q' ∧ r = r' := by
  have key : ∀ {q r q' r' : Nat}, InBlk u t p q r → InBlk u t p q' r' → q < q' → False := by
    intro q r q' r' a b h
    have h1 : q < L t := Nat.lt_of_lt_of_le h b.le
    have e : (M t)[q]? = some ((M t)[q]'h1) := List.getElem?_eq_getElem h1
    have h2 := a.lo _ e
    have h3 := bs_step u t q _ e
    have h4 : bs u t (q + 1) ≤ bs u t q' := by
      by_cases z : q + 1 = q'
      · rw [z]; exact Nat.le_refl _
      · exact Nat.le_of_lt (bs_lt u t q' (q + 1) (by omega) b.le)
    have := a.eq
    have := b.eq
    omega
  have e : q = q' := by
    rcases Nat.lt_trichotomy q q' with h | h | h
    · exact (key a b h).elim
    · exact h
    · exact (key b a h).elim
  subst e
  have := a.eq
  have := b.eq
  exact ⟨rfl, by omega⟩
/-- a block's own start -/
theorem InBlk.start (u t : Wd) (q : Nat) (h : q ≤ L t) : InBlk u t (bs u t q) q 0 := ⟨rfl, h, fun y _ => by have := gr_pos u y; omega, fun _ => Nat.zero_le _⟩
/-- how many blocks begin up to a place -/
theorem InBlk.start_le {u t : Wd} {p q r i : Nat} (B : InBlk u t p q r) (hi : i ≤ L t) : bs u t i ≤ p ↔ i ≤ q := by
  constructor
  · intro h
    by_cases z : i ≤ q
    · exact z
    · exfalso
      have h1 : q < L t := by omega
      have e : (M t)[q]? = some ((M t)[q]'h1) := List.getElem?_eq_getElem h1
      have h2 := B.lo _ e
      have h3 := bs_step u t q _ e
      have h4 : bs u t (q + 1) ≤ bs u t i := by
        by_cases z2 : q + 1 = i
        · rw [z2]; exact Nat.le_refl _
        · exact Nat.le_of_lt (bs_lt u t i (q + 1) (by omega) hi)
      have := B.eq
      omega
  · intro h
    have h4 : bs u t i ≤ bs u t q := by
      by_cases z2 : i = q
      · rw [z2]; exact Nat.le_refl _
      · exact Nat.le_of_lt (bs_lt u t q i (by omega) B.le)
    have := B.eq
    omega
/-- the letter behind M u at a block's start is that of M t -/
theorem read_at (u t : Wd) (n : Nat) (y : Nat) (h : (M t)[n]? = some y) : (M (u ++ t))[bs u t n + L u]? = some y := by
  have hn : n < (M t).length := (List.getElem?_eq_some_iff.mp h).1
  have e : M t = (M t).take n ++ y :: (M t).drop (n + 1) := by
    have e1 : (M t)[n] = y := (List.getElem?_eq_some_iff.mp h).2
    rw [← e1, List.getElem_cons_drop, List.take_append_drop]
  have e2 : M (u ++ t) = psi u ((M t).take n) ++ (psi u (y :: (M t).drop (n + 1)) ++ M u) := by
    rw [M_app]
    conv => lhs; rw [e]
    rw [psi_app, List.append_assoc]
  rw [e2]
  unfold bs L
  rw [List.getElem?_append_right (by omega), Nat.add_sub_cancel_left]
  obtain ⟨r, er⟩ := blk_pre u y ((M t).drop (n + 1))
  rw [← er, List.append_assoc, List.getElem?_append_right (Nat.le_refl _), Nat.sub_self]
  rfl
end Mir
end
section
set_option autoImplicit false
namespace Mir
/-! where a word stands -/
/-- w stands in W from j on -/
def Occ (w W : Wd) (j : Nat) : Prop := ∃ a b, W = a ++ (w ++ b) ∧ a.length = j
theorem Occ.le {w W : Wd} {j : Nat} (h : Occ w W j) : j + w.length ≤ W.length := by
  obtain ⟨a, b, e, l⟩ := h
  rw [e, List.length_append, List.length_append]; omega
theorem occ_nil (W : Wd) (j : Nat) : Occ [] W j ↔ j ≤ W.length := by
  constructor
  · intro h; have := h.le; simpa using this
  · intro h; exact ⟨W.take j, W.drop j, by simp, by rw [List.length_take]; omega⟩
theorem Occ.mono {w W V : Wd} {j : Nat} (h : Occ w W j) (p : W <+: V) : Occ w V j := by
  obtain ⟨a, b, e, l⟩ := h
  obtain ⟨r, er⟩ := p
  exact ⟨a, b ++ r, by rw [← er, e]; simp, l⟩
theorem Occ.shift {w W : Wd} {j : Nat} (h : Occ w W j) (A : Wd) : Occ w (A ++ W) (A.length + j) := by
  obtain ⟨a, b, e, l⟩ := h
  exact ⟨A ++ a, b, by rw [e]; simp, by rw [List.length_append, l]⟩
theorem occ_iff (w W : Wd) (j : Nat) : Occ w W j ↔ j ≤ W.length ∧ (W.drop j).take w.length = w := by
  constructor
  · intro h
    have hl := h.le
    obtain ⟨a, b, e, l⟩ := h
    refine ⟨by omega, ?_⟩
    rw [e, ← l, List.drop_left, List.take_left]
  · rintro ⟨hj, h⟩
    refine ⟨W.take j, (W.drop j).drop w.length, ?_, by rw [List.length_take]; omega⟩
    conv => lhs; rw [← List.take_append_drop j W, ← List.take_append_drop w.length (W.drop j), h]
instance (w W : Wd) (j : Nat) : Decidable (Occ w W j) := decidable_of_iff _ (occ_iff w W j).symm
/-- a part of W -/
theorem Occ.sub {w W : Wd} {j : Nat} {a n : Nat} (h : Occ w ((W.drop a).take n) j) (ha : a ≤ W.length) : Occ w W (a + j) := by
  have p : (W.drop a).take n <+: W.drop a := List.take_prefix _ _
  have h2 := (h.mono p).shift (W.take a)
  rw [List.take_append_drop, List.length_take, Nat.min_eq_left ha] at h2
  exact h2
theorem Occ.within {w W : Wd} {j : Nat} {a n : Nat} (h : Occ w W j) (h1 : a ≤ j) (h2 : j + w.length ≤ a + n) : Occ w ((W.drop a).take n) (j - a) := by
  rw [occ_iff] at h ⊢
  obtain ⟨hj, h⟩ := h
  by_cases hw : w = []
  · subst hw
    refine ⟨?_, by simp⟩
    rw [List.length_take, List.length_drop]
    simp at h2
    omega
  · have hl : (W.drop j).length ≥ w.length := by
      have : ((W.drop j).take w.length).length = w.length := by rw [h]
      rw [List.length_take] at this; omega
    rw [List.length_drop] at hl
    refine ⟨by rw [List.length_take, List.length_drop]; omega, ?_⟩
    rw [List.drop_take, List.drop_drop, List.take_take]
    have e1 : a + (j - a) = j := by omega
    have e2 : min w.length (n - (j - a)) = w.length := by omega
    rw [e1, e2, h]

/-! unspreading -/
theorem split_x (x : Nat) : ∀ (W A C : Wd), phi x W ++ [x] = A ++ x :: C → ∃ a b, W = a ++ b ∧ A = phi x a ∧ phi x b ++ [x] = x :: C
  | [], A, C, h => by
    cases A with
    | nil => exact ⟨[], [], rfl, rfl, h⟩
    | cons c A => simp [phi] at h
  | y :: W, A, C, h => by
    cases A with
    | nil => exact ⟨[], y :: W, rfl, rfl, h⟩
    | cons c A =>
      rw [phi_cons] at h
      unfold bk at h
      split at h
      · rename_i hy
        simp only [List.cons_append, List.nil_append, List.cons.injEq] at h
        obtain ⟨e, h⟩ := h
        obtain ⟨a, b, e1, e2, e3⟩ := split_x x W A C h
        exact ⟨y :: a, b, by rw [e1]; rfl, by rw [phi_cons, e2, ← e]; unfold bk; rw [if_pos hy]; rfl, e3⟩
      · rename_i hy
        simp only [List.cons_append, List.nil_append, List.cons.injEq] at h
        obtain ⟨e, h⟩ := h
        cases A with
        | nil =>
          simp only [List.nil_append, List.cons.injEq] at h
          exact absurd h.1 hy
        | cons d A =>
          simp only [List.cons_append, List.cons.injEq] at h
          obtain ⟨e', h⟩ := h
          obtain ⟨a, b, e1, e2, e3⟩ := split_x x W A C h
          exact ⟨y :: a, b, by rw [e1]; rfl, by rw [phi_cons, e2, ← e, ← e']; unfold bk; rw [if_neg hy]; rfl, e3⟩
theorem spr_cancel (x : Nat) : ∀ (z b B : Wd), phi x b ++ [x] = phi x z ++ x :: B → ∃ b', b = z ++ b'
  | [], b, B, _ => ⟨b, rfl⟩
  | y :: z, [], B, h => by
    have := congrArg List.length h
    rw [phi_cons] at this
    have h2 := bk_len x y
    simp [phi] at this
    omega
  | y :: z, y' :: b, B, h => by
    rw [phi_cons, phi_cons] at h
    unfold bk at h
    by_cases hy : y = x
    · rw [if_pos hy] at h
      by_cases hy' : y' = x
      · rw [if_pos hy'] at h
        simp only [List.cons_append, List.nil_append, List.cons.injEq, true_and] at h
        obtain ⟨b', e⟩ := spr_cancel x z b B h
        exact ⟨b', by rw [e, hy, hy']; rfl⟩
      · rw [if_neg hy'] at h
        simp only [List.cons_append, List.nil_append, List.cons.injEq, true_and] at h
        obtain ⟨r, e⟩ := spr_hd2 x z B
        rw [e] at h
        simp only [List.cons.injEq] at h
        exact absurd h.1 hy'
    · rw [if_neg hy] at h
      by_cases hy' : y' = x
      · rw [if_pos hy'] at h
        simp only [List.cons_append, List.nil_append, List.cons.injEq, true_and] at h
        obtain ⟨r, e⟩ := spr_hd x b
        rw [e] at h
        simp only [List.cons.injEq] at h
        exact absurd h.1.symm hy
      · rw [if_neg hy'] at h
        simp only [List.cons_append, List.nil_append, List.cons.injEq, true_and] at h
        obtain ⟨b', e⟩ := spr_cancel x z b B h.2
        exact ⟨b', by rw [e, h.1]; rfl⟩
theorem occ_spr (x : Nat) (z W : Wd) (j : Nat) : Occ (phi x z ++ [x]) (phi x W ++ [x]) j ↔ ∃ j', Occ z W j' ∧ j = (phi x (W.take j')).length := by
  constructor
  · rintro ⟨A, B, e, rfl⟩
    obtain ⟨r, er⟩ := spr_hd x z
    rw [er] at e
    obtain ⟨a, b, e1, e2, e3⟩ := split_x x W A (r ++ B) e
    have e4 : phi x b ++ [x] = phi x z ++ x :: B := by
      rw [e3]
      have : x :: (r ++ B) = (x :: r) ++ B := rfl
      rw [this, ← er]; simp
    obtain ⟨b', e5⟩ := spr_cancel x z b B e4
    exact ⟨a.length, ⟨a, b', by rw [e1, e5], rfl⟩, by rw [e2, e1, List.take_left]⟩
  · rintro ⟨j', ⟨a, b, e, l⟩, rfl⟩
    obtain ⟨r, er⟩ := spr_hd x b
    refine ⟨phi x a, r, ?_, by rw [e, ← l, List.take_left]⟩
    rw [e, phi_app, phi_app]
    have : phi x a ++ (phi x z ++ phi x b) ++ [x] = phi x a ++ (phi x z ++ (phi x b ++ [x])) := by simp
    rw [this, er]; simp
/-- ahead of another letter stands x -/
theorem spr_left (x c : Nat) (hc : c ≠ x) : ∀ (W A B : Wd), phi x W ++ [x] = A ++ c :: B → ∃ A', A = A' ++ [x]
  | [], A, B, h => by
    cases A with
    | nil => simp [phi] at h; exact absurd h.1.symm hc
    | cons d A => simp [phi] at h
  | y :: W, A, B, h => by
    rw [phi_cons] at h
    unfold bk at h
    cases A with
    | nil =>
      split at h
      · simp at h; exact absurd h.1.symm hc
      · simp at h; exact absurd h.1.symm hc
    | cons d A =>
      split at h
      · simp only [List.cons_append, List.nil_append, List.cons.injEq] at h
        obtain ⟨A', e⟩ := spr_left x c hc W A B h.2
        exact ⟨d :: A', by rw [e]; rfl⟩
      · simp only [List.cons_append, List.nil_append, List.cons.injEq] at h
        obtain ⟨e1, h⟩ := h
        cases A with
        | nil => exact ⟨[], by rw [e1]; rfl⟩
        | cons d' A =>
          simp only [List.cons_append, List.cons.injEq] at h
          obtain ⟨A', e⟩ := spr_left x c hc W A B h.2
          exact ⟨d :: d' :: A', by rw [e]; rfl⟩
/-- behind another letter stands x -/
theorem spr_right (x c : Nat) (hc : c ≠ x) : ∀ (W A B : Wd), phi x W ++ [x] = A ++ c :: B → ∃ B', B = x :: B'
  | [], A, B, h => by
    cases A with
    | nil => simp [phi] at h; exact absurd h.1.symm hc
    | cons d A => simp [phi] at h
  | y :: W, A, B, h => by
    rw [phi_cons] at h
    unfold bk at h
    cases A with
    | nil =>
      split at h
      · simp at h; exact absurd h.1.symm hc
      · simp at h; exact absurd h.1.symm hc
    | cons d A =>
      split at h
      · simp only [List.cons_append, List.nil_append, List.cons.injEq] at h
        exact spr_right x c hc W A B h.2
      · simp only [List.cons_append, List.nil_append, List.cons.injEq] at h
        obtain ⟨e1, h⟩ := h
        cases A with
        | nil =>
          simp only [List.nil_append, List.cons.injEq] at h
          obtain ⟨r, er⟩ := spr_hd x W
          exact ⟨r, by rw [← h.2, er]⟩
        | cons d' A =>
          simp only [List.cons_append, List.cons.injEq] at h
          exact spr_right x c hc W A B h.2
/-- x ahead, where it lacks -/
theorem occ_left (x : Nat) (w W : Wd) (hw : ∃ c w', w = c :: w' ∧ c ≠ x) (j : Nat) : Occ w (phi x W ++ [x]) j ↔ ∃ i, Occ (x :: w) (phi x W ++ [x]) i ∧ j = i + 1 := by
  obtain ⟨c, w', rfl, hc⟩ := hw
  constructor
  · rintro ⟨A, B, e, rfl⟩
    obtain ⟨A', rfl⟩ := spr_left x c hc W A (w' ++ B) (by rw [e]; rfl)
    exact ⟨A'.length, ⟨A', B, by rw [e]; simp, rfl⟩, by simp⟩
  · rintro ⟨i, ⟨A, B, e, rfl⟩, rfl⟩
    exact ⟨A ++ [x], B, by rw [e]; simp, by simp⟩
/-- x behind, where it lacks -/
theorem occ_right (x : Nat) (w W : Wd) (hw : ∃ c w', w = w' ++ [c] ∧ c ≠ x) (j : Nat) : Occ w (phi x W ++ [x]) j ↔ Occ (w ++ [x]) (phi x W ++ [x]) j := by
  obtain ⟨c, w', rfl, hc⟩ := hw
  constructor
  · rintro ⟨A, B, e, rfl⟩
    obtain ⟨B', rfl⟩ := spr_right x c hc W (A ++ w') B (by rw [e]; simp)
    exact ⟨A, B', by rw [e]; simp, rfl⟩
  · rintro ⟨A, B, e, rfl⟩
    exact ⟨A, x :: B, by rw [e]; simp, rfl⟩
/-- a word that begins and ends with x is a spread one -/
theorem spr_of (x : Nat) (w W : Wd) (j : Nat) (h : Occ w (phi x W ++ [x]) j) (h1 : ∃ r, w = x :: r) (h2 : ∃ r, w = r ++ [x]) : ∃ z, w = phi x z ++ [x] := by
  obtain ⟨A, B, e, _⟩ := h
  obtain ⟨r, er⟩ := h1
  obtain ⟨q, eq⟩ := h2
  obtain ⟨a, b, e1, e2, e3⟩ := split_x x W A (r ++ B) (by rw [e, er]; rfl)
  have e4 : phi x b ++ [x] = q ++ x :: B := by
    rw [e3]
    have : x :: (r ++ B) = (x :: r) ++ B := rfl
    rw [this, ← er, eq]; simp
  obtain ⟨z, b', e5, e6, e7⟩ := split_x x b q B e4
  exact ⟨z, by rw [eq, e6]⟩
theorem last_cases (w : Wd) (hw : w ≠ []) : ∃ r c, w = r ++ [c] := ⟨w.dropLast, w.getLast hw, (List.dropLast_concat_getLast hw).symm⟩
/-- the word ahead of the spread -/
theorem unspread (x : Nat) (w V0 : Wd) (j0 : Nat) (hw : w ≠ []) (h : Occ w (phi x V0 ++ [x]) j0) :
    ∃ z e, (z = [] → e = 0) ∧ ∀ V j, Occ w (phi x V ++ [x]) j ↔ ∃ j', Occ z V j' ∧ j = (phi x (V.take j')).length + e := by
  obtain ⟨c, w', ew⟩ : ∃ c w', w = c :: w' := by cases w with | nil => exact absurd rfl hw | cons c w' => exact ⟨c, w', rfl⟩
  -- ahead
  have L1 : ∃ w1 e, (∃ r, w1 = x :: r) ∧ w1 ≠ [] ∧ (e = 0 ∨ 2 ≤ w1.length) ∧ ∀ V j, Occ w (phi x V ++ [x]) j ↔ ∃ i, Occ w1 (phi x V ++ [x]) i ∧ j = i + e := by
    by_cases hc : c = x
    · exact ⟨w, 0, ⟨w', by rw [ew, hc]⟩, hw, .inl rfl, fun V j => ⟨fun h => ⟨j, h, rfl⟩, fun ⟨i, h, e⟩ => by rw [e]; exact h⟩⟩
    · exact ⟨x :: w, 1, ⟨w, rfl⟩, by simp, .inr (by rw [ew]; simp), fun V j => occ_left x w V ⟨c, w', ew, hc⟩ j⟩
  obtain ⟨w1, e, hx1, hn1, he, H1⟩ := L1
  -- behind
  have L2 : ∃ w2, (∃ r, w2 = x :: r) ∧ (∃ r, w2 = r ++ [x]) ∧ w1.length ≤ w2.length ∧ ∀ V j, Occ w1 (phi x V ++ [x]) j ↔ Occ w2 (phi x V ++ [x]) j := by
    obtain ⟨r, d, er⟩ := last_cases w1 hn1
    by_cases hd : d = x
    · exact ⟨w1, hx1, ⟨r, by rw [er, hd]⟩, Nat.le_refl _, fun V j => Iff.rfl⟩
    · obtain ⟨q, eq⟩ := hx1
      exact ⟨w1 ++ [x], ⟨q ++ [x], by rw [eq]; rfl⟩, ⟨w1, rfl⟩, by simp, fun V j => occ_right x w1 V ⟨d, r, er, hd⟩ j⟩
  obtain ⟨w2, hx2, hy2, hl2, H2⟩ := L2
  obtain ⟨i0, h1, _⟩ := (H1 V0 j0).mp h
  obtain ⟨z, ez⟩ := spr_of x w2 V0 i0 ((H2 V0 i0).mp h1) hx2 hy2
  refine ⟨z, e, fun hz => ?_, fun V j => ?_⟩
  · rcases he with he | he
    · exact he
    · rw [hz] at ez
      rw [ez] at hl2
      simp [phi] at hl2
      omega
  · rw [H1]
    constructor
    · rintro ⟨i, hi, rfl⟩
      rw [H2, ez, occ_spr] at hi
      obtain ⟨j', hj, rfl⟩ := hi
      exact ⟨j', hj, rfl⟩
    · rintro ⟨j', hj, rfl⟩
      refine ⟨_, ?_, rfl⟩
      rw [H2, ez, occ_spr]
      exact ⟨j', hj, rfl⟩

/-! homes -/
structure Home (v w : Wd) (K A : Nat) : Prop where
  le : K ≤ v.length
  all : ∀ j, Occ w (M v) j ↔ ∃ i, i ≤ L (v.drop K) ∧ j = A + bs (v.take K) (v.drop K) i
  here : Occ w (M (v.take K)) A
theorem take_at (u t : Wd) (i A : Nat) (hA : A ≤ L u) : (M (u ++ t)).take (A + bs u t i) = psi u ((M t).take i) ++ (M u).take A := by
  have e2 : M (u ++ t) = psi u ((M t).take i) ++ (psi u ((M t).drop i) ++ M u) := by
    rw [M_app]
    conv => lhs; rw [← List.take_append_drop i (M t)]
    rw [psi_app, List.append_assoc]
  rw [e2]
  unfold bs
  rw [List.take_append, List.take_of_length_le (by omega), Nat.add_sub_cancel]
  congr 1
  obtain ⟨r, er⟩ := blk_pre0 u ((M t).drop i)
  rw [← er, List.take_append_of_le_length hA]
theorem home_nil (v : Wd) : Home v [] 0 0 := by
  refine ⟨Nat.zero_le _, fun j => ?_, (occ_nil _ _).mpr (Nat.zero_le _)⟩
  rw [occ_nil]
  show j ≤ L v ↔ _
  constructor
  · intro h; exact ⟨j, h, by show j = 0 + bs [] v j; rw [bs_nil v j h]; omega⟩
  · rintro ⟨i, h, e⟩
    have e2 : j = 0 + bs [] v i := e
    rw [bs_nil v i h] at e2
    have h2 : i ≤ L v := h
    omega
/-- the home of a word that stands -/
theorem home_ex : ∀ (v w : Wd) (j0 : Nat), w ≠ [] → Occ w (M v) j0 → ∃ K A, 1 ≤ K ∧ Home v w K A ∧ ¬ ∃ j, Occ w (M (v.take (K - 1))) j
  | [], w, j0, hw, h => by
    have := h.le
    simp [M] at this
    exact absurd this.2 hw
  | x :: v, w, j0, hw, h => by
    obtain ⟨z, e, hz, H⟩ := unspread x w (M v) j0 hw h
    by_cases z0 : z = []
    · have e0 := hz z0
      subst z0; subst e0
      refine ⟨1, 0, Nat.le_refl _, ⟨by simp, fun j => ?_, ?_⟩, ?_⟩
      · show Occ w (phi x (M v) ++ [x]) j ↔ ∃ i, i ≤ L v ∧ j = 0 + bs [x] v i
        rw [H]
        constructor
        · rintro ⟨j', hj, rfl⟩
          exact ⟨j', (occ_nil _ _).mp hj, by unfold bs; show _ = 0 + (phi x (psi [] ((M v).take j'))).length; simp [psi]⟩
        · rintro ⟨i, hi, rfl⟩
          exact ⟨i, (occ_nil _ _).mpr hi, by unfold bs; show 0 + (phi x (psi [] ((M v).take i))).length = _; simp [psi]⟩
      · show Occ w (phi x (M []) ++ [x]) 0
        rw [H]
        exact ⟨0, (occ_nil _ _).mpr (Nat.zero_le _), by simp [phi]⟩
      · rintro ⟨j, hj⟩
        have := hj.le
        simp [M] at this
        exact hw this.2
    · obtain ⟨j', hj', _⟩ := (H (M v) j0).mp h
      obtain ⟨K, A, hK, HH, hno⟩ := home_ex v z j' z0 hj'
      have hAl : A ≤ L (v.take K) := by have := HH.here.le; unfold L; omega
      obtain ⟨K', rfl⟩ : ∃ K', K = K' + 1 := ⟨K - 1, by omega⟩
      refine ⟨K' + 2, (phi x ((M (v.take (K' + 1))).take A)).length + e, by omega, ⟨by have := HH.le; simp; omega, fun j => ?_, ?_⟩, ?_⟩
      · show Occ w (phi x (M v) ++ [x]) j ↔ ∃ i, i ≤ L (v.drop (K' + 1)) ∧ j = _ + bs (x :: v.take (K' + 1)) (v.drop (K' + 1)) i
        rw [H]
        have key : ∀ i, (phi x ((M v).take (A + bs (v.take (K' + 1)) (v.drop (K' + 1)) i))).length = (phi x ((M (v.take (K' + 1))).take A)).length + bs (x :: v.take (K' + 1)) (v.drop (K' + 1)) i := fun i => by
          have e1 := take_at (v.take (K' + 1)) (v.drop (K' + 1)) i A hAl
          rw [List.take_append_drop] at e1
          rw [e1, phi_app, List.length_append]
          unfold bs
          show (phi x (psi (v.take (K' + 1)) _)).length + _ = _ + (phi x (psi (v.take (K' + 1)) _)).length
          omega
        constructor
        · rintro ⟨j', hj, rfl⟩
          obtain ⟨i, hi, rfl⟩ := (HH.all j').mp hj
          exact ⟨i, hi, by rw [key]; omega⟩
        · rintro ⟨i, hi, rfl⟩
          exact ⟨_, (HH.all _).mpr ⟨i, hi, rfl⟩, by rw [key]; omega⟩
      · show Occ w (phi x (M (v.take (K' + 1))) ++ [x]) _
        rw [H]
        exact ⟨A, HH.here, rfl⟩
      · rintro ⟨j, hj⟩
        have hj2 : Occ w (phi x (M (v.take K')) ++ [x]) j := hj
        rw [H] at hj2
        obtain ⟨j', hz', _⟩ := hj2
        exact hno ⟨j', hz'⟩
theorem M_take_pre (v : Wd) (m n : Nat) (h : m ≤ n) : M (v.take m) <+: M (v.take n) := by
  have e : v.take n = v.take m ++ (v.drop m).take (n - m) := by
    have h2 : n = m + (n - m) := by omega
    conv => lhs; rw [h2, List.take_add]
  rw [e]; exact M_pre _ _
/-- in the mirror of its home's presses it stands once; in no shorter one -/
theorem home_one (v w : Wd) (j0 : Nat) (hw : w ≠ []) (h : Occ w (M v) j0) :
    ∃ K A, 1 ≤ K ∧ Home v w K A ∧ (∀ m, m < K → ∀ j, ¬ Occ w (M (v.take m)) j) ∧ ∀ j, Occ w (M (v.take K)) j → j = A := by
  obtain ⟨K, A, hK, HH, hno⟩ := home_ex v w j0 hw h
  have hmin : ∀ m, m < K → ∀ j, ¬ Occ w (M (v.take m)) j := fun m hm j hj => hno ⟨j, hj.mono (M_take_pre v m (K - 1) (by omega))⟩
  refine ⟨K, A, hK, HH, hmin, ?_⟩
  obtain ⟨K2, A2, hK2, H2, _⟩ := home_ex (v.take K) w A hw HH.here
  have hl : (v.take K).length = K := by rw [List.length_take]; have := HH.le; omega
  have hle := H2.le
  rw [hl] at hle
  have hk : K2 = K := by
    by_cases z : K2 < K
    · exfalso
      have hh := H2.here
      rw [List.take_take, Nat.min_eq_left hle] at hh
      exact hmin K2 z A2 hh
    · omega
  subst hk
  have e0 : (v.take K2).drop K2 = [] := List.drop_eq_nil_of_le (by rw [hl]; exact Nat.le_refl _)
  have only : ∀ j, Occ w (M (v.take K2)) j → j = A2 := fun j hj => by
    obtain ⟨i, hi, e⟩ := (H2.all j).mp hj
    rw [e0] at hi e
    have : i = 0 := by rw [L_nil] at hi; omega
    subst this
    rw [bs_zero] at e
    omega
  intro j hj
  rw [only j hj, only A HH.here]
/-- a mirror's own home -/
theorem occ_M (u t : Wd) : ∀ j, Occ (M u) (M (u ++ t)) j ↔ ∃ i, i ≤ L t ∧ j = bs u t i := by
  induction u with
  | nil =>
    intro j
    show Occ [] (M t) j ↔ _
    rw [occ_nil]
    constructor
    · intro h; exact ⟨j, h, (bs_nil t j h).symm⟩
    · rintro ⟨i, h, e⟩; rw [bs_nil t i h] at e; subst e; exact h
  | cons x u ih =>
    intro j
    show Occ (phi x (M u) ++ [x]) (phi x (M (u ++ t)) ++ [x]) j ↔ _
    rw [occ_spr]
    have key : ∀ i, (phi x ((M (u ++ t)).take (bs u t i))).length = bs (x :: u) t i := fun i => by
      have e1 := take_at u t i 0 (Nat.zero_le _)
      rw [Nat.zero_add, List.take_zero, List.append_nil] at e1
      rw [e1]; rfl
    constructor
    · rintro ⟨j', hj, rfl⟩
      obtain ⟨i, hi, rfl⟩ := (ih j').mp hj
      exact ⟨i, hi, key i⟩
    · rintro ⟨i, hi, rfl⟩
      exact ⟨_, (ih _).mpr ⟨i, hi, rfl⟩, (key i).symm⟩
end Mir
end
section
set_option autoImplicit false
namespace Mir
/-! all places of a word, in order -/
theorem sorted_ext : ∀ (l m : List Nat), l.Pairwise (· < ·) → m.Pairwise (· < ·) → (∀ a, a ∈ l ↔ a ∈ m) → l = m
  | [], [], _, _, _ => rfl
  | [], b :: m, _, _, h => absurd ((h b).mpr (by simp)) (by simp)
  | a :: l, [], _, _, h => absurd ((h a).mp (by simp)) (by simp)
  | a :: l, b :: m, hl, hm, h => by
    obtain ⟨hl1, hl2⟩ := List.pairwise_cons.mp hl
    obtain ⟨hm1, hm2⟩ := List.pairwise_cons.mp hm
    have e : a = b := by
      rcases List.mem_cons.mp ((h a).mp (by simp)) with z | z
      · exact z
      · rcases List.mem_cons.mp ((h b).mpr (by simp)) with y | y
        · exact y.symm
        · have := hm1 a z; have := hl1 b y; omega
    subst e
    congr 1
    refine sorted_ext l m hl2 hm2 fun c => ⟨fun hc => ?_, fun hc => ?_⟩
    · rcases List.mem_cons.mp ((h c).mp (by simp [hc])) with z | z
      · have := hl1 c hc; omega
      · exact z
    · rcases List.mem_cons.mp ((h c).mpr (by simp [hc])) with z | z
      · have := hm1 c hc; omega
      · exact z
def occs (v w : Wd) : List Nat := (List.range (L v + 1)).filter fun j => decide (Occ w (M v) j)
theorem mem_occs (v w : Wd) (j : Nat) : j ∈ occs v w ↔ Occ w (M v) j := by
  unfold occs
  rw [List.mem_filter, List.mem_range, decide_eq_true_eq]
  constructor
  · exact fun h => h.2
  · intro h; exact ⟨by have := h.le; unfold L; omega, h⟩
theorem occs_sorted (v w : Wd) : (occs v w).Pairwise (· < ·) := List.Pairwise.filter _ List.pairwise_lt_range
theorem map_sorted (n : Nat) (f : Nat → Nat) (h : ∀ i j, i < j → j < n → f i < f j) : ((List.range n).map f).Pairwise (· < ·) := by
  rw [List.pairwise_map]
  have := List.pairwise_lt_range (n := n)
  refine List.Pairwise.imp_of_mem (fun {a b} ha hb hab => h a b hab (List.mem_range.mp hb)) this
theorem occs_home {v w : Wd} {K A : Nat} (H : Home v w K A) : occs v w = (List.range (L (v.drop K) + 1)).map fun i => A + bs (v.take K) (v.drop K) i := by
  refine sorted_ext _ _ (occs_sorted v w) (map_sorted _ _ fun i j h1 h2 => ?_) fun j => ?_
  · have := bs_lt (v.take K) (v.drop K) j i h1 (by omega)
    omega
  · rw [mem_occs, H.all, List.mem_map]
    constructor
    · rintro ⟨i, hi, e⟩; exact ⟨i, List.mem_range.mpr (by omega), e.symm⟩
    · rintro ⟨i, hi, e⟩; exact ⟨i, by have := List.mem_range.mp hi; omega, e.symm⟩
theorem occs_M (u t : Wd) : occs (u ++ t) (M u) = (List.range (L t + 1)).map (bs u t) := by
  refine sorted_ext _ _ (occs_sorted _ _) (map_sorted _ _ fun i j h1 h2 => bs_lt u t j i h1 (by omega)) fun j => ?_
  rw [mem_occs, occ_M, List.mem_map]
  constructor
  · rintro ⟨i, hi, e⟩; exact ⟨i, List.mem_range.mpr (by omega), e.symm⟩
  · rintro ⟨i, hi, e⟩; exact ⟨i, by have := List.mem_range.mp hi; omega, e.symm⟩
/-- how many of a list's numbers are less -/
def cnt (l : List Nat) (p : Nat) : Nat := (l.filter fun o => decide (o < p)).length
theorem cnt_le (l : List Nat) (p : Nat) : cnt l p ≤ l.length := List.length_filter_le _ _
theorem filter_range_lt (n c : Nat) (h : c ≤ n) (p : Nat → Bool) (hp : ∀ i, i < n → (p i = true ↔ i < c)) : ((List.range n).filter p).length = c := by
  have e : (List.range n).filter p = List.range c := by
    refine sorted_ext _ _ (List.Pairwise.filter _ List.pairwise_lt_range) List.pairwise_lt_range fun a => ?_
    rw [List.mem_filter, List.mem_range, List.mem_range]
    constructor
    · rintro ⟨h1, h2⟩; exact (hp a h1).mp h2
    · intro h1; exact ⟨by omega, (hp a (by omega)).mpr h1⟩
  rw [e, List.length_range]
theorem cnt_map (n c p : Nat) (f : Nat → Nat) (h : c ≤ n) (hp : ∀ i, i < n → (f i < p ↔ i < c)) : cnt ((List.range n).map f) p = c := by
  unfold cnt
  rw [List.filter_map, List.length_map]
  refine filter_range_lt n c h _ fun i hi => ?_
  show decide (f i < p) = true ↔ i < c
  rw [decide_eq_true_eq]
  exact hp i hi
theorem cnt_home {v w : Wd} {K A p : Nat} (H : Home v w K A) : cnt (occs v w) p = if p ≤ A then 0 else if L v ≤ p - 1 - A then L (v.drop K) + 1 else val (gs [] (v.drop K)) ((digs (gs [] v) (p - 1 - A)).drop K) + 1 := by
  rw [occs_home H]
  have hK : (v.take K).length = K := by rw [List.length_take]; have := H.le; omega
  have e := bs_le_end (v.take K) (v.drop K)
  have hd : v.take K ++ v.drop K = v := List.take_append_drop _ _
  rw [hd] at e
  by_cases h1 : p ≤ A
  · rw [if_pos h1]
    exact cnt_map _ _ _ _ (Nat.zero_le _) fun i _ => ⟨fun h => by omega, fun h => by omega⟩
  · rw [if_neg h1]
    by_cases h2 : L v ≤ p - 1 - A
    · rw [if_pos h2]
      refine cnt_map _ _ _ _ (Nat.le_refl _) fun i hi => ⟨fun _ => hi, fun _ => ?_⟩
      have := e i (by omega)
      omega
    · rw [if_neg h2]
      have B := block_of (v.take K) (v.drop K) (p - 1 - A) (by rw [hd]; omega)
      rw [hd, hK] at B
      have := B.le
      refine cnt_map _ _ _ _ (by omega) fun i hi => ?_
      have s := B.start_le (i := i) (by omega)
      constructor
      · intro h; have := s.mp (by omega); omega
      · intro h; have := s.mpr (by omega); omega
/-! the walker's steps -/
theorem cnt_get {l : List Nat} (hs : l.Pairwise (· < ·)) {p k : Nat} (hk : k < l.length) : l[k] < p ↔ k < cnt l p := by
  induction l generalizing k with
  | nil => simp at hk
  | cons a l ih =>
    obtain ⟨h1, h2⟩ := List.pairwise_cons.mp hs
    by_cases ha : a < p
    · have e : cnt (a :: l) p = cnt l p + 1 := by unfold cnt; rw [List.filter_cons, if_pos (by simpa using ha)]; rfl
      rw [e]
      cases k with
      | zero => simp [ha]
      | succ k =>
        have := ih h2 (k := k) (by simpa using hk)
        simp only [List.getElem_cons_succ]
        omega
    · have e : cnt (a :: l) p = 0 := by
        unfold cnt
        rw [List.length_eq_zero_iff, List.filter_eq_nil_iff]
        intro o ho
        rcases List.mem_cons.mp ho with z | z
        · subst z; simpa using ha
        · have := h1 o z; simp; omega
      rw [e]
      cases k with
      | zero => simp; omega
      | succ k =>
        have hk2 : k < l.length := by simpa using hk
        have := h1 l[k] (List.getElem_mem hk2)
        simp only [List.getElem_cons_succ]
        omega
theorem filter_lt_take {l : List Nat} (hs : l.Pairwise (· < ·)) (p : Nat) : (l.filter fun o => decide (o < p)) = l.take (cnt l p) := by
  induction l with
  | nil => rfl
  | cons a l ih =>
    obtain ⟨h1, h2⟩ := List.pairwise_cons.mp hs
    by_cases ha : a < p
    · have e : cnt (a :: l) p = cnt l p + 1 := by unfold cnt; rw [List.filter_cons, if_pos (by simpa using ha)]; rfl
      rw [e, List.filter_cons, if_pos (by simpa using ha), ih h2]; rfl
    · have e0 : (a :: l).filter (fun o => decide (o < p)) = [] := by
        rw [List.filter_eq_nil_iff]
        intro o ho
        rcases List.mem_cons.mp ho with z | z
        · subst z; simpa using ha
        · have := h1 o z; simp; omega
      have e : cnt (a :: l) p = 0 := by unfold cnt; rw [e0]; rfl
      rw [e, e0]; rfl
theorem filter_gt_drop {l : List Nat} (hs : l.Pairwise (· < ·)) (p : Nat) : (l.filter fun o => decide (p < o)) = l.drop (cnt l (p + 1)) := by
  induction l with
  | nil => rfl
  | cons a l ih =>
    obtain ⟨h1, h2⟩ := List.pairwise_cons.mp hs
    by_cases ha : a < p + 1
    · have e : cnt (a :: l) (p + 1) = cnt l (p + 1) + 1 := by unfold cnt; rw [List.filter_cons, if_pos (by simpa using ha)]; rfl
      rw [e, List.filter_cons, if_neg (by simp; omega), ih h2]; rfl
    · have e0 : (a :: l).filter (fun o => decide (o < p + 1)) = [] := by
        rw [List.filter_eq_nil_iff]
        intro o ho
        rcases List.mem_cons.mp ho with z | z
        · subst z; simpa using ha
        · have := h1 o z; simp; omega
      have e : cnt (a :: l) (p + 1) = 0 := by unfold cnt; rw [e0]; rfl
      rw [e, List.drop_zero, List.filter_eq_self.mpr]
      intro o ho
      rcases List.mem_cons.mp ho with z | z
      · subst z; simp; omega
      · have := h1 o z; simp; omega
theorem cnt_at {l : List Nat} (hs : l.Pairwise (· < ·)) {k : Nat} (hk : k < l.length) : cnt l l[k] = k := by
  have h := cnt_get hs (p := l[k]) hk
  have h1 : ¬ k < cnt l l[k] := fun z => by have := h.mpr z; omega
  have h2 : ∀ i, i < k → i < cnt l l[k] := fun i hi => by
    have := List.pairwise_iff_getElem.mp hs i k (by omega) hk hi
    exact (cnt_get hs (p := l[k]) (by omega)).mp this
  by_cases hk0 : k = 0
  · omega
  · have := h2 (k - 1) (by omega); omega
theorem cnt_at1 {l : List Nat} (hs : l.Pairwise (· < ·)) {k : Nat} (hk : k < l.length) : cnt l (l[k] + 1) = k + 1 := by
  have h := (cnt_get hs (p := l[k] + 1) hk).mp (by omega)
  have h1 : cnt l (l[k] + 1) ≤ k + 1 := by
    by_cases z : k + 1 < l.length
    · have h3 := List.pairwise_iff_getElem.mp hs k (k + 1) hk z (by omega)
      have h2 := cnt_get hs (p := l[k] + 1) z
      have : ¬ k + 1 < cnt l (l[k] + 1) := fun y => by have := h2.mpr y; omega
      omega
    · have := cnt_le l (l[k] + 1); omega
  omega

/-! where a letter was pressed last -/
def lastIx : Wd → Nat → Option Nat
  | [], _ => none
  | y :: v, x => match lastIx v x with
    | some j => some (j + 1)
    | none => if y = x then some 0 else none
theorem lastIx_snoc (v : Wd) (y x : Nat) : lastIx (v ++ [y]) x = if y = x then some v.length else lastIx v x := by
  induction v with
  | nil => simp [lastIx]
  | cons z v ih =>
    show (match lastIx (v ++ [y]) x with | some j => some (j + 1) | none => if z = x then some 0 else none) = _
    rw [ih]
    by_cases h : y = x
    · rw [if_pos h, if_pos h]; rfl
    · rw [if_neg h, if_neg h]; rfl
theorem lastIx_none (v : Wd) (x : Nat) : lastIx v x = none ↔ x ∉ v := by
  induction v with
  | nil => simp [lastIx]
  | cons y v ih =>
    unfold lastIx
    cases h : lastIx v x with
    | some j =>
      rw [h] at ih
      simp only [reduceCtorEq, false_iff, Classical.not_not] at ih ⊢
      simp [ih]
    | none =>
      have h2 := ih.mp h
      by_cases e : y = x
      · rw [if_pos e]; simp [e]
      · rw [if_neg e]
        simp only [true_iff]
        intro z
        rcases List.mem_cons.mp z with q | q
        · exact e q.symm
        · exact h2 q
theorem lastIx_some : ∀ (v : Wd) (x j : Nat), lastIx v x = some j → j < v.length ∧ v = v.take j ++ x :: v.drop (j + 1) ∧ x ∉ v.drop (j + 1)
  | [], x, j, h => by simp [lastIx] at h
  | y :: v, x, j, h => by
    unfold lastIx at h
    cases e : lastIx v x with
    | some i =>
      rw [e] at h
      obtain rfl : i + 1 = j := by simpa using h
      obtain ⟨h1, h2, h3⟩ := lastIx_some v x i e
      refine ⟨by simp; omega, ?_, h3⟩
      show y :: v = y :: (v.take i ++ x :: v.drop (i + 1))
      rw [← h2]
    | none =>
      rw [e] at h
      by_cases q : y = x
      · rw [q] at h
        simp only [if_true, Option.some.injEq] at h
        subst h
        exact ⟨by simp, by rw [q]; rfl, (lastIx_none v x).mp e⟩
      · simp [q] at h
/-- one press more -/
theorem L_step (v : Wd) (x : Nat) : L (v ++ [x]) = match lastIx v x with | none => 2 * L v + 1 | some j => 2 * L v - L (v.take j) := by
  cases e : lastIx v x with
  | none =>
    have h := (lastIx_none v x).mp e
    show _ = 2 * L v + 1
    rw [L_snoc, gr_new v x h]; omega
  | some j =>
    obtain ⟨h1, h2, h3⟩ := lastIx_some v x j e
    show _ = 2 * L v - L (v.take j)
    have h4 := gr_old (v.take j) (v.drop (j + 1)) x h3
    rw [← h2] at h4
    rw [L_snoc]
    omega
theorem L_step_le (v : Wd) (x j : Nat) (e : lastIx v x = some j) : L (v.take j) ≤ L v := by
  have h := L_mono (v.take j) (v.drop j)
  rwa [List.take_append_drop] at h
theorem M_step (v : Wd) (x : Nat) : M (v ++ [x]) = match lastIx v x with | none => M v ++ x :: M v | some j => M v ++ (M v).drop (L (v.take j)) := by
  cases e : lastIx v x with
  | none => exact copy_new v x ((lastIx_none v x).mp e)
  | some j =>
    obtain ⟨h1, h2, h3⟩ := lastIx_some v x j e
    show _ = M v ++ (M v).drop (L (v.take j))
    have h4 := copy_old (v.take j) (v.drop (j + 1)) x h3
    rw [← h2] at h4
    exact h4
theorem gr_step (v : Wd) (x : Nat) : gr v x = match lastIx v x with | none => L v + 1 | some j => L v - L (v.take j) := by
  cases e : lastIx v x with
  | none => exact gr_new v x ((lastIx_none v x).mp e)
  | some j =>
    obtain ⟨h1, h2, h3⟩ := lastIx_some v x j e
    show _ = L v - L (v.take j)
    have h4 := gr_old (v.take j) (v.drop (j + 1)) x h3
    rw [← h2] at h4
    omega
theorem new_iff (v : Wd) (x : Nat) : L (v ++ [x]) = 2 * L v + 1 ↔ x ∉ v := by
  rw [L_step]
  cases e : lastIx v x with
  | none => simp only [true_iff]; exact (lastIx_none v x).mp e
  | some j =>
    have h : ¬ x ∉ v := fun z => by rw [(lastIx_none v x).mpr z] at e; cases e
    simp only [h, iff_false]
    omega
theorem M_hi (v : Wd) (x p : Nat) (h : gr v x ≤ p) : (M (v ++ [x]))[p]? = (M v)[p - gr v x]? := by
  rw [M_snoc, List.getElem?_append_right (by unfold gr at h; exact h)]
  rfl
theorem M_lo (v : Wd) (x p : Nat) (h : p < L v) : (M (v ++ [x]))[p]? = (M v)[p]? := by
  obtain ⟨r, e⟩ := M_pre v [x]
  rw [← e, List.getElem?_append_left h]
theorem M_mid (v : Wd) (x : Nat) : (M (v ++ [x]))[L v]? = some x := by
  obtain ⟨r, e⟩ := M_pre_snoc v x
  rw [← e, List.append_assoc]
  unfold L
  rw [List.getElem?_append_right (Nat.le_refl _), Nat.sub_self]
  rfl

/-! mirrors by closing -/
theorem phi_inj (x : Nat) (z b : Wd) (h : phi x b ++ [x] = phi x z ++ [x]) (hl : b.length = z.length) : b = z := by
  obtain ⟨b', e⟩ := spr_cancel x z b [] h
  have : b' = [] := by rw [e] at hl; simp at hl; exact hl
  rw [e, this, List.append_nil]
theorem pal_pre : ∀ (v P : Wd), P <+: M v → P.reverse = P → ∃ n, n ≤ v.length ∧ P = M (v.take n)
  | [], P, h, _ => ⟨0, Nat.le_refl _, by have := h.length_le; simp [M] at this; rw [this]; rfl⟩
  | x :: v, P, h, hp => by
    by_cases h0 : P = []
    · exact ⟨0, Nat.zero_le _, h0⟩
    · obtain ⟨R, eR⟩ := h
      have eR2 : P ++ R = phi x (M v) ++ [x] := eR
      obtain ⟨c, P', eP⟩ : ∃ c P', P = c :: P' := by cases P with | nil => exact absurd rfl h0 | cons c P' => exact ⟨c, P', rfl⟩
      have hc : c = x := by
        obtain ⟨r, er⟩ := spr_hd x (M v)
        rw [er, eP] at eR2
        simp at eR2
        exact eR2.1
      subst hc
      have o : Occ P (phi c (M v) ++ [c]) 0 := ⟨[], R, eR2.symm, rfl⟩
      have h2 : ∃ r, P = r ++ [c] := ⟨P'.reverse, by rw [← hp, eP]; simp⟩
      obtain ⟨z, ez⟩ := spr_of c P (M v) 0 o ⟨P', eP⟩ h2
      rw [ez, occ_spr] at o
      obtain ⟨j', ⟨a, b, ea, la⟩, e0⟩ := o
      have hj : j' = 0 := by
        have h3 := phi_len c ((M v).take j')
        have h4 : j' ≤ (M v).length := by rw [ea, ← la]; simp
        rw [List.length_take, Nat.min_eq_left h4] at h3
        omega
      subst hj
      have ha : a = [] := List.length_eq_zero_iff.mp la
      subst ha
      have hz : z.reverse = z := by
        rw [ez, spr_rev] at hp
        exact phi_inj c z z.reverse hp (by simp)
      obtain ⟨n, hn, e⟩ := pal_pre v z ⟨b, by rw [ea]; rfl⟩ hz
      exact ⟨n + 1, by simp; omega, by rw [ez, e]; rfl⟩
/-- what closes M v and x begins at gr - 1 -/
theorem close_yes (v : Wd) (x : Nat) : ((M v ++ [x]).drop (gr v x - 1)).reverse = (M v ++ [x]).drop (gr v x - 1) := by
  have hg := gr_le v x
  have hp := gr_pos v x
  have hL := L_snoc v x
  have hpal := M_pal (v ++ [x])
  obtain ⟨R, eR⟩ := M_pre_snoc v x
  have lR : R.length = gr v x - 1 := by
    have := congrArg List.length eR
    simp only [List.length_append, List.length_cons, List.length_nil] at this
    unfold L at hL
    omega
  have lB : (M v ++ [x]).length = L v + 1 := by unfold L; simp
  have e1 : M v ++ [x] = (M v ++ [x]).take (gr v x - 1) ++ (M v ++ [x]).drop (gr v x - 1) := (List.take_append_drop _ _).symm
  rw [← eR, e1, List.reverse_append, List.reverse_append] at hpal
  have l1 : R.reverse.length = ((M v ++ [x]).take (gr v x - 1)).length := by rw [List.length_reverse, List.length_take, lR, lB]; omega
  have := hpal
  rw [List.append_assoc] at this
  obtain ⟨h1, h2⟩ := List.append_inj this l1
  have l2 : ((M v ++ [x]).drop (gr v x - 1)).reverse.length = ((M v ++ [x]).drop (gr v x - 1)).length := List.length_reverse
  exact (List.append_inj h2 l2).1
theorem close_rest (v : Wd) (x : Nat) : M (v ++ [x]) = (M v ++ [x]) ++ ((M v ++ [x]).take (gr v x - 1)).reverse := by
  have hg := gr_le v x
  have hp := gr_pos v x
  have hL := L_snoc v x
  have hpal := M_pal (v ++ [x])
  obtain ⟨R, eR⟩ := M_pre_snoc v x
  have lR : R.length = gr v x - 1 := by
    have := congrArg List.length eR
    simp only [List.length_append, List.length_cons, List.length_nil] at this
    unfold L at hL
    omega
  have lB : (M v ++ [x]).length = L v + 1 := by unfold L; simp
  rw [← eR]
  congr 1
  have e1 : M v ++ [x] = (M v ++ [x]).take (gr v x - 1) ++ (M v ++ [x]).drop (gr v x - 1) := (List.take_append_drop _ _).symm
  rw [← eR, e1, List.reverse_append, List.reverse_append] at hpal
  have l1 : R.reverse.length = ((M v ++ [x]).take (gr v x - 1)).length := by rw [List.length_reverse, List.length_take, lR, lB]; omega
  rw [List.append_assoc] at hpal
  obtain ⟨h1, h2⟩ := List.append_inj hpal l1
  rw [← h1, List.reverse_reverse]
theorem close_no (v : Wd) (x s : Nat) (hs : s < gr v x - 1) : ((M v ++ [x]).drop s).reverse ≠ (M v ++ [x]).drop s := by
  intro hp
  have hg := gr_le v x
  have hsL : s < (M v).length := by unfold L at hg; omega
  rw [List.drop_append_of_le_length (Nat.le_of_lt hsL), List.reverse_append] at hp
  -- the first letter there is x
  have e1 : (M v).drop s = (M v)[s] :: (M v).drop (s + 1) := List.drop_eq_getElem_cons hsL
  rw [e1] at hp
  have hp2 : ∀ (c : Nat) (d : Wd), [x].reverse ++ (c :: d).reverse = (c :: d) ++ [x] → x = c ∧ d.reverse ++ [c] = d ++ [x] := fun c d h => by simpa using h
  obtain ⟨hx, hp3⟩ := hp2 _ _ hp
  have hP : ((M v).drop (s + 1)).reverse = (M v).drop (s + 1) := (List.append_inj' hp3 rfl).1
  -- it begins M v, x behind it
  have hpre : (M v).drop (s + 1) ++ [x] <+: M v := by
    refine ⟨((M v).take s).reverse, ?_⟩
    have h1 : (M v).reverse = ((M v).take s ++ ((M v)[s] :: (M v).drop (s + 1))).reverse := by rw [← e1, List.take_append_drop]
    rw [M_pal, List.reverse_append, List.reverse_cons, hP, ← hx] at h1
    exact h1.symm
  obtain ⟨n, hn, eM⟩ := pal_pre v ((M v).drop (s + 1)) (List.IsPrefix.trans (List.prefix_append _ _) hpre) hP
  have hlen : L (v.take n) = L v - (s + 1) := by unfold L; rw [← eM, List.length_drop]
  have hn2 : n < v.length := by
    by_cases z : n = v.length
    · subst z; rw [List.take_length] at hlen; unfold L at hlen; omega
    · omega
  -- the press behind is x
  have hv : v = v.take n ++ v[n] :: v.drop (n + 1) := by rw [List.getElem_cons_drop, List.take_append_drop]
  have hnx : v[n] = x := by
    have a1 : M (v.take n) ++ [v[n]] <+: M v := by
      refine List.IsPrefix.trans (M_pre_snoc (v.take n) v[n]) ?_
      have : v = (v.take n ++ [v[n]]) ++ v.drop (n + 1) := by rw [List.append_assoc]; exact hv
      conv => rhs; rw [this]
      exact M_pre _ _
    rw [eM] at hpre
    have := List.prefix_of_prefix_length_le a1 hpre (by simp)
    obtain ⟨r, er⟩ := this
    have lr : r = [] := by have := congrArg List.length er; simp at this; exact this
    rw [lr, List.append_nil] at er
    have := List.append_cancel_left er
    simpa using this
  have hmem : x ∈ v := by rw [← hnx]; exact List.getElem_mem hn2
  cases e : lastIx v x with
  | none => exact (lastIx_none v x).mp e hmem
  | some j =>
    obtain ⟨h1, h2, h3⟩ := lastIx_some v x j e
    have hgr := gr_step v x
    rw [e] at hgr
    have hgr2 : gr v x = L v - L (v.take j) := hgr
    have hjn : n ≤ j := by
      by_cases z : n ≤ j
      · exact z
      · exfalso
        apply h3
        rw [← hnx]
        exact List.mem_drop_iff_getElem.mpr ⟨n - (j + 1), by omega, by congr 1; omega⟩
    have hm : L (v.take n) ≤ L (v.take j) := by unfold L; exact (M_take_pre v n j hjn).length_le
    have hLj : L (v.take j) ≤ L v := L_step_le v x j e
    have : L v ≥ s + 1 := by unfold L; omega
    omega

/-! the midst of a press -/
theorem rev_take_M (v : Wd) (n : Nat) (h : n ≤ L v) : ((M v).take n).reverse = (M v).drop (L v - n) := by
  rw [List.reverse_take, M_pal]
  rfl
/-- what is looked through for a home at the press x -/
def mid (v : Wd) (x around : Nat) : Wd := ((M v).take around).reverse ++ (match lastIx v x with | none => x :: (M v).take around | some j => ((M v).take around).drop (L (v.take j)))
theorem mid_part (v : Wd) (x around : Nat) : mid v x around = ((M (v ++ [x])).drop (L v - min (L v) around)).take (mid v x around).length := by
  have e0 : (M v).take around = (M v).take (min (L v) around) := by
    rw [List.take_eq_take_iff]; unfold L; omega
  have hp : mid v x around <+: (M (v ++ [x])).drop (L v - min (L v) around) := by
    unfold mid
    rw [M_step, e0, rev_take_M v _ (Nat.min_le_left _ _)]
    cases e : lastIx v x with
    | none =>
      show _ <+: (M v ++ x :: M v).drop _
      rw [List.drop_append_of_le_length (by unfold L; omega), List.prefix_append_right_inj]
      exact List.cons_prefix_cons.mpr ⟨rfl, List.take_prefix _ _⟩
    | some j =>
      show _ <+: (M v ++ (M v).drop (L (v.take j))).drop _
      rw [List.drop_append_of_le_length (by unfold L; omega), List.prefix_append_right_inj]
      show ((M v).take (min (L v) around)).drop (L (v.take j)) <+: _
      rw [List.drop_take]; exact List.take_prefix _ _
  exact List.prefix_iff_eq_take.mp hp
theorem mid_no {v w : Wd} {x around : Nat} (h : ∀ j, ¬ Occ w (M (v ++ [x])) j) : ∀ j, ¬ Occ w (mid v x around) j := fun j hj => by
  rw [mid_part] at hj
  exact h _ (hj.sub (by have := L_lt_snoc v x; unfold L at this ⊢; omega))
theorem mid_yes {v w : Wd} {x A : Nat} (hw : w ≠ []) (h1 : Occ w (M (v ++ [x])) A) (h2 : ∀ j, Occ w (M (v ++ [x])) j → j = A) (h3 : ∀ j, ¬ Occ w (M v) j) :
    L v - min (L v) (w.length - 1) ≤ A ∧ ∀ j, Occ w (mid v x (w.length - 1)) j ↔ j = A - (L v - min (L v) (w.length - 1)) := by
  have hl : 1 ≤ w.length := by cases w with | nil => exact absurd rfl hw | cons a b => simp
  have hle := h1.le
  have eL : (M (v ++ [x])).length = gr v x + L v := L_snoc v x
  rw [eL] at hle
  -- it goes beyond M v
  have b1 : L v < A + w.length := by
    by_cases z : L v < A + w.length
    · exact z
    · exfalso
      rw [occ_iff] at h1
      obtain ⟨r, er⟩ := M_pre v [x]
      refine h3 A ((occ_iff _ _ _).mpr ⟨by unfold L at z; omega, ?_⟩)
      have h5 := h1.2
      rw [← er, List.drop_append_of_le_length (by unfold L at z; omega), List.take_append_of_le_length (by rw [List.length_drop]; unfold L at z; omega)] at h5
      exact h5
  -- it begins ahead of the second M v
  have b2 : A < gr v x := by
    by_cases z : A < gr v x
    · exact z
    · exfalso
      rw [occ_iff] at h1
      refine h3 (A - gr v x) ((occ_iff _ _ _).mpr ⟨by unfold L at hle; omega, ?_⟩)
      have h5 := h1.2
      rw [M_snoc, List.drop_append] at h5
      unfold gr at z ⊢
      rw [List.drop_eq_nil_of_le (by omega), List.nil_append] at h5
      exact h5
  have c1 : L v - min (L v) (w.length - 1) ≤ A := by omega
  have lm : A + w.length ≤ (L v - min (L v) (w.length - 1)) + (mid v x (w.length - 1)).length := by
    unfold mid
    have hgs := gr_step v x
    cases e : lastIx v x with
    | none =>
      rw [e] at hgs
      have hgs2 : gr v x = L v + 1 := hgs
      simp only [List.length_append, List.length_reverse, List.length_take, List.length_cons]
      have : (M v).length = L v := rfl
      omega
    | some j =>
      rw [e] at hgs
      have hgs2 : gr v x = L v - L (v.take j) := hgs
      have hLj : L (v.take j) ≤ L v := L_step_le v x j e
      simp only [List.length_append, List.length_reverse, List.length_take, List.length_drop]
      have : (M v).length = L v := rfl
      omega
  refine ⟨c1, fun j => ⟨fun hj => ?_, fun hj => ?_⟩⟩
  · rw [mid_part] at hj
    have := h2 _ (hj.sub (by have := L_lt_snoc v x; unfold L at this ⊢; omega))
    omega
  · subst hj
    rw [mid_part]
    exact h1.within c1 lm
end Mir
end
section
set_option Elab.async false
set_option linter.all false
set_option maxRecDepth 100000
set_option maxHeartbeats 4000000
/-! own rules: enumerate(text), zip(text, list) -/
namespace Mr
open PySem PySem.Spec PyProof.Rows L2

/-! ### enumerate(text) -/
def Ites (x : Str) : It :=
  ⟨fun i _ => i < x.cps.size, fun i H v H' => ∃ T c, v = .ref T ∧ H T = none ∧ H' = upd H T (.tup [.int (i : Nat), .str ⟨#[c]⟩]) ∧ x.cps[i]? = some c, fun i _ => i = x.cps.size⟩
theorem turn_enumS {P : Program} {w : World} {K : PySem.W.Frag} {elts : List Expr} {kk : Nat} {tpos : Pos} (x : Str) (t : Tok) (e it : Addr) :
    Turn P w K (.Tuple elts kk tpos) (Ites x) [e, it] e (fun i h => (∃ old, IsEnum h e it ((i : Nat) : Int) old) ∧ h.IsStrIter it (strIterType x) x t i ∧ e ≠ it) where
  mem := by simp
  obj := fun i h st b hb => by
    obtain ⟨⟨old, he⟩, ⟨o, ho, hc, hd⟩, _⟩ := st
    have e' : b = e ∨ b = it := by simpa using hb
    rcases e' with z | z
    · rw [z]; exact ⟨_, he, fun v q => nomatch q⟩
    · rw [z]; exact ⟨o, ho, fun v q => by rw [hd] at q; cases q⟩
  keep := fun i h h' st k => by
    obtain ⟨⟨old, he⟩, ⟨o, ho, r⟩, hne⟩ := st
    exact ⟨⟨old, k e (by simp) _ he⟩, ⟨o, k it (by simp) o ho, r⟩, hne⟩
  item := by
    intro X hP hw hK hc i pins s σ H E I hf st hg
    subst hP hw hK
    obtain ⟨⟨old, he⟩, hit, hne⟩ := st
    have hel : e < s.heap.objs.size := Heap.lt_size he
    have hil : it < s.heap.objs.size := by obtain ⟨_, q, _⟩ := hit; exact Heap.lt_size q
    have D := Draws.text (prog := X.prog) (w := X.w) (A := X.A.in1) (I.ok.hd hc) it x t
    refine wpAny_pyNext_enum_itemC D he hit hg hne (by simpa using hne) fun u h' tk hu ho hit' hT hsz hk => ?_
    obtain ⟨c, tu, hcx, rfl⟩ := hu
    refine ⟨_, rfl, wpAny_letOwnedTupleGo_enum (s := { s with heap := h', toks := tk + 1 }) ho fun h'' he' sb => ?_⟩
    have hT2 : h''.get? s.heap.objs.size = some { cls := .type "tuple", data := .seq #[.int i tk, .str ⟨#[c]⟩ tu] } := (sb.2 _ (Nat.ne_of_gt hel)).trans hT
    have new : ObjOk X.prog X.w (upd H s.heap.objs.size (.tup [.int (i : Nat), .str ⟨#[c]⟩])) h'' s.heap.objs.size (.tup [.int (i : Nat), .str ⟨#[c]⟩]) :=
      ⟨by show 2 ≤ sizeLine; decide, [.int i tk, .str ⟨#[c]⟩ tu], .cons ⟨_, rfl⟩ (.cons ⟨_, rfl⟩ .nil), ⟨_, hT2, rfl, _, rfl⟩⟩
    have I1 : Inv X pins σ (upd H s.heap.objs.size (.tup [.int (i : Nat), .str ⟨#[c]⟩])) { s with heap := h'', toks := tk + 1 } :=
      I.turnedNew (ch := [e, it]) (fun b ob hb q => (sb.2 b (fun z => hb (by simp [z]))).trans (hk b ob (fun z => hb (by simp [z])) (fun z => hb (by simp [z])) q)) hf (Nat.le_refl _) new
    refine ⟨.ref s.heap.objs.size, _, I1, rfl, ⟨_, c, rfl, I.hok.fresh (Nat.le_refl _), rfl, hcx⟩, ⟨⟨.str ⟨#[c]⟩ tu, ?_⟩, ?_, hne⟩, fun b hb => ?_⟩
    · have e1 : ((i + 1 : Nat) : Int) = (i : Int) + 1 := by omega
      rw [e1]; exact he'
    · obtain ⟨o, ho2, r⟩ := hit'
      exact ⟨o, (sb.2 it (Ne.symm hne)).trans ho2, r⟩
    · have hb' : b < s.heap.objs.size := by
        have e' : b = e ∨ b = it := by simpa using hb
        rcases e' with z | z
        · rw [z]; exact hel
        · rw [z]; exact hil
      rw [upd_ne (Nat.ne_of_lt hb')]
      exact (hf b hb).1
  done := by
    intro X hP hw hK hc i pins s σ H E I hf st hg
    subst hP hw hK
    obtain ⟨⟨old, he⟩, hit, hne⟩ := st
    have hg : i = x.cps.size := hg
    subst hg
    obtain ⟨f0, f1, f2, f3, f4, f5⟩ := hf it (by simp)
    have D := Draws.text (prog := X.prog) (w := X.w) (A := X.A.in1) (I.ok.hd hc) it x t
    exact wpAny_pyNext_enum_endD D he hit fun h' eb => ⟨rfl, I.turned (t' := s.toks) (fun b o hb q => eb b o hb q) f0 f1 f3 f4 f5⟩
  self := fun A i s Q E st h => let ⟨⟨_, he⟩, _⟩ := st; wpAny_pyIter_enum he h
def iEnumS (ta : TA) : TI := fun σ H R => ta σ H fun vs H1 => ∃ x, vs = [.str x] ∧ R (Ites x) H1
theorem pi_enumS {X : Cx} {e : Expr} {ta : TA} {p pos tpos : Pos} {elts : List Expr} {kk : Nat} (hg : Gl X "enumerate") (hm : X.mg "enumerate" = none) (ha : PA X [e] ta) (hs : starEach [e] X.env = [(false, eval e X.env)] := by rfl) :
    PI X (.Tuple elts kk tpos) (.Call (.Name "enumerate" p) [e] [] pos) (iEnumS ta) := by
  refine ⟨fun pins s σ H R I h => ?_⟩
  refine Call_ (ld_blt I hg hm boot_enumerate (PyProof.Rows.callWith_type1 (thn (ha.run pos pins s σ H _ I h) fun us s1 ⟨vs, H1, I1, r1, q1⟩ => ?_) hs rfl))
  obtain ⟨x, ex, q⟩ := q1
  subst ex
  cases r1 with
  | cons r rr =>
    cases rr
    obtain ⟨t, rfl⟩ := r
    refine call_enumerate_str fun h' he hit hsz hk => wpAny_pyIter_enum he ?_
    have I2 : Inv X pins σ H1 { s1 with heap := h' } := I1.kept (t' := s1.toks) hk
    refine ⟨s1.heap.objs.size + 1, [s1.heap.objs.size + 1, s1.heap.objs.size], _, _, H1, rfl, I2, turn_enumS x t (s1.heap.objs.size + 1) s1.heap.objs.size, ⟨⟨.none, he⟩, hit, Nat.succ_ne_self _⟩, fun b hb => ?_, q⟩
    have e' : b = s1.heap.objs.size + 1 ∨ b = s1.heap.objs.size := by simpa using hb
    have hle : s1.heap.objs.size ≤ b := by
      rcases e' with z | z
      · rw [z]; exact Nat.le_add_right _ _
      · rw [z]; exact Nat.le_refl _
    exact I1.fpOk hle (I1.hok.fresh hle)
theorem walk_enumS {x : Str} : Walk (Ites x) x.cps.size (fun _ => True) (YPair (fun i => some (.int (i : Nat))) (fun i => x.cps[i]?.map fun c => .str ⟨#[c]⟩)) := by
  refine ⟨fun i _ hi _ => hi, fun _ _ => rfl, fun i H v H' _ q y => ?_⟩
  obtain ⟨T, c, h1, h2, h3, h4⟩ := y
  exact ⟨T, .int (i : Nat), .str ⟨#[c]⟩, h1, h2, h3, rfl, by show x.cps[i]?.map _ = _; rw [h4]; rfl⟩

/-! ### zip(text, list) of one length -/
def Itzs (K : PySem.W.Frag) (x : Str) (b : Addr) : It :=
  ⟨fun i H => i < x.cps.size ∧ ∃ (ys : List V) (y : V), SqL K H b ys ∧ ys[i]? = some y,
    fun i H v H' => ∃ T c y, v = .ref T ∧ H T = none ∧ H' = upd H T (.tup [.str ⟨#[c]⟩, y]) ∧ x.cps[i]? = some c ∧ ∀ ys, SqL K H b ys → ys[i]? = some y,
    fun i H => i = x.cps.size ∧ ∃ ys : List V, SqL K H b ys ∧ i = ys.length⟩
theorem turn_zipS {P : Program} {w : World} {K : PySem.W.Frag} {elts : List Expr} {kk : Nat} {tpos : Pos} {x : Str} {t : Tok} {b z TI TO i1 i2 : Addr} (hd : [z, TI, TO, i1, i2].Nodup) (hbn : b ∉ [z, TI, TO, i1, i2]) :
    Turn P w K (.Tuple elts kk tpos) (Itzs K x b) [z, TI, TO, i1, i2] z (fun i h => IsZip h z TI TO .none ∧ IsPair h TI (.ref i1) (.ref i2) ∧ (∃ x y, IsPair h TO x y) ∧ h.IsStrIter i1 (strIterType x) x t i ∧ h.IsListIter i2 b i) where
  mem := by simp
  obj := fun i h st c hc => by
    obtain ⟨hz, hTI, ⟨x, y, hTO⟩, ⟨o1, e1, _, d1⟩, ⟨o2, e2, _, d2⟩⟩ := st
    have e' : c = z ∨ c = TI ∨ c = TO ∨ c = i1 ∨ c = i2 := by simpa using hc
    rcases e' with q | q | q | q | q
    · rw [q]; exact ⟨_, hz, fun v q => nomatch q⟩
    · rw [q]; exact ⟨_, hTI, fun v q => nomatch q⟩
    · rw [q]; exact ⟨_, hTO, fun v q => nomatch q⟩
    · rw [q]; exact ⟨o1, e1, fun v q => by rw [d1] at q; cases q⟩
    · rw [q]; exact ⟨o2, e2, fun v q => by rw [d2] at q; cases q⟩
  keep := fun i h h' st k => by
    obtain ⟨hz, hTI, ⟨x, y, hTO⟩, ⟨o1, e1, r1⟩, h2⟩ := st
    exact ⟨k z (by simp) _ hz, k TI (by simp) _ hTI, ⟨x, y, k TO (by simp) _ hTO⟩, ⟨o1, k i1 (by simp) o1 e1, r1⟩, h2.at fun o q => k i2 (by simp) o q⟩
  item := by
    intro X hP hw hK hc i pins s σ H E I hf st hg
    subst hP hw hK
    obtain ⟨hz, hTI, ⟨x0, y0, hTO⟩, h1, h2⟩ := st
    obtain ⟨hi, ys, y, hqy, hy⟩ := hg
    obtain ⟨its2, rv2, p2, _⟩ := I.list hqy
    obtain ⟨u2, hu2, ru2⟩ := rv2.get hy
    have hi2 : i < its2.toArray.size := by rw [List.size_toArray]; exact (List.getElem?_eq_some_iff.mp hu2).1
    simp only [List.nodup_cons, List.mem_cons, List.not_mem_nil, or_false, not_or, List.nodup_nil, and_true, not_false_eq_true] at hd hbn
    obtain ⟨⟨d1, d2, d3, d4⟩, ⟨d5, d6, d7⟩, ⟨d8, d9⟩, d10⟩ := hd
    obtain ⟨b1, b2, b3, b4, b5⟩ := hbn
    have S : ZipSep2 z TI TO i1 i2 [i1] [i2, b] :=
      { TIz := Ne.symm d1, TOz := Ne.symm d2, TITO := d5, TIi1 := d6, mem1 := by simp, zf1 := by simpa using d3, Tf1 := by simpa using d8, TIi2 := d7, mem2 := by simp,
        zf2 := by simp only [List.mem_cons, List.not_mem_nil, or_false, not_or]; exact ⟨d4, Ne.symm b1⟩, Tf2 := by simp only [List.mem_cons, List.not_mem_nil, or_false, not_or]; exact ⟨d9, Ne.symm b3⟩,
        sep1_2 := by simp only [List.mem_cons, List.not_mem_nil, or_false, not_or]; exact ⟨d10, Ne.symm b4⟩, sep2_1 := by simpa using Ne.symm d10 }
    have D1 := Draws.text (prog := X.prog) (w := X.w) (A := X.A.in1) (I.ok.hd hc) i1 x t
    have D2 := Draws.list (prog := X.prog) (w := X.w) (A := X.A.in1) (I.ok.hd hc) i2 b b5 its2.toArray
    have hzl : z < s.heap.objs.size := Heap.lt_size hz
    refine wpAny_pyNext_zipD2_item S D1 D2 hz hTI hTO h1 ⟨h2, p2.isList⟩ hi hi2 fun u1 u3 h' tk hu1 hu3 z' TO' h1' h2' hT hsz hk => ?_
    obtain ⟨c, tu, hcx, rfl⟩ := hu1
    have e3 : u3 = u2 := by
      have q : its2.toArray[i]? = some u3 := hu3
      rw [List.getElem?_toArray, hu2] at q
      exact (Option.some.inj q).symm
    subst e3
    refine ⟨_, rfl, wpAny_letOwnedTupleGo_zip (s := { s with heap := h', toks := tk }) z' fun h'' z'' sb => ?_⟩
    have hT2 : h''.get? s.heap.objs.size = some { cls := .type "tuple", data := .seq #[.str ⟨#[c]⟩ tu, u3] } := (sb.2 _ (Nat.ne_of_gt hzl)).trans hT
    have new : ObjOk X.prog X.w (upd H s.heap.objs.size (.tup [.str ⟨#[c]⟩, y])) h'' s.heap.objs.size (.tup [.str ⟨#[c]⟩, y]) :=
      ⟨by show 2 ≤ sizeLine; decide, [.str ⟨#[c]⟩ tu, u3], .cons ⟨_, rfl⟩ (.cons ru2 .nil), ⟨_, hT2, rfl, _, rfl⟩⟩
    have I1 : Inv X pins σ (upd H s.heap.objs.size (.tup [.str ⟨#[c]⟩, y])) { s with heap := h'', toks := tk } :=
      I.turnedNew (ch := [z, TI, TO, i1, i2]) (fun c o hb q => (sb.2 c (fun q' => hb (by simp [q']))).trans (hk c o (fun q' => hb (by simp [q'])) (fun q' => hb (by simp [q'])) (fun q' => hb (by simp [q'])) (fun q' => hb (by simp [q'])) q)) hf (Nat.le_refl _) new
    refine ⟨.ref s.heap.objs.size, _, I1, rfl, ⟨_, c, y, rfl, I.hok.fresh (Nat.le_refl _), rfl, hcx, fun l hl => by rw [I.list_inj hl hqy]; exact hy⟩, ⟨z'', ?_, ⟨.str ⟨#[c]⟩ tu, u3, ?_⟩, ?_, ?_⟩, fun c hcm => ?_⟩
    · exact (sb.2 _ S.TIz).trans (hk _ _ S.TIz S.TITO S.TIi1 S.TIi2 hTI)
    · exact (sb.2 _ S.TOz).trans TO'
    · obtain ⟨o, ho2, r⟩ := h1'
      exact ⟨o, (sb.2 _ (Ne.symm S.zi1)).trans ho2, r⟩
    · exact h2'.1.at fun o q => (sb.2 _ (Ne.symm S.zi2)).trans q
    · have hlt : c < s.heap.objs.size := by
        have e' : c = z ∨ c = TI ∨ c = TO ∨ c = i1 ∨ c = i2 := by simpa using hcm
        rcases e' with q | q | q | q | q
        · rw [q]; exact hzl
        · rw [q]; exact Heap.lt_size hTI
        · rw [q]; exact Heap.lt_size hTO
        · rw [q]; obtain ⟨_, e1, _⟩ := h1; exact Heap.lt_size e1
        · rw [q]; obtain ⟨_, e2, _⟩ := h2; exact Heap.lt_size e2
      rw [upd_ne (Nat.ne_of_lt hlt)]
      exact (hf c hcm).1
  done := by
    intro X hP hw hK hc i pins s σ H E I hf st hg
    subst hP hw hK
    obtain ⟨hz, hTI, ⟨x0, y0, hTO⟩, h1, h2⟩ := st
    obtain ⟨hi, ys, hqy, hend⟩ := hg
    obtain ⟨its2, rv2, p2, _⟩ := I.list hqy
    have l2 := rv2.length
    simp only [List.nodup_cons, List.mem_cons, List.not_mem_nil, or_false, not_or, List.nodup_nil, and_true, not_false_eq_true] at hd hbn
    obtain ⟨⟨d1, d2, d3, d4⟩, ⟨d5, d6, d7⟩, ⟨d8, d9⟩, d10⟩ := hd
    obtain ⟨b1, b2, b3, b4, b5⟩ := hbn
    have S : ZipSep2 z TI TO i1 i2 [i1] [i2, b] :=
      { TIz := Ne.symm d1, TOz := Ne.symm d2, TITO := d5, TIi1 := d6, mem1 := by simp, zf1 := by simpa using d3, Tf1 := by simpa using d8, TIi2 := d7, mem2 := by simp,
        zf2 := by simp only [List.mem_cons, List.not_mem_nil, or_false, not_or]; exact ⟨d4, Ne.symm b1⟩, Tf2 := by simp only [List.mem_cons, List.not_mem_nil, or_false, not_or]; exact ⟨d9, Ne.symm b3⟩,
        sep1_2 := by simp only [List.mem_cons, List.not_mem_nil, or_false, not_or]; exact ⟨d10, Ne.symm b4⟩, sep2_1 := by simpa using Ne.symm d10 }
    have D1 := Draws.text (prog := X.prog) (w := X.w) (A := X.A.in1) (I.ok.hd hc) i1 x t
    have D2 := Draws.list (prog := X.prog) (w := X.w) (A := X.A.in1) (I.ok.hd hc) i2 b b5 its2.toArray
    refine wpAny_pyNext_zipD2_end S D1 D2 hz hTI hTO h1 ⟨h2, p2.isList⟩ (by omega) (by rw [List.size_toArray]; omega) (.inl hi) fun h' tk hk => ⟨rfl, I.turnedL (ch := [z, TI, TO, i1, i2]) (fun c o hb q =>
      hk c o (fun q' => hb (by simp [q'])) (fun q' => hb (by simp [q'])) (fun q' => hb (by simp [q'])) (fun q' => hb (by simp [q'])) q) hf⟩
  self := fun A i s Q E st h => wpAny_pyIter_zip st.1 h
def iZipS (K : PySem.W.Frag) (ta : TA) : TI := fun σ H R => ta σ H fun vs H1 => ∃ x b ys, vs = [.str x, .ref b] ∧ SqL K H1 b ys ∧ R (Itzs K x b) H1
theorem pi_zipS {X : Cx} {e e2 : Expr} {ta : TA} {p pos tpos : Pos} {elts : List Expr} {kk : Nat} (hg : Gl X "zip") (hm : X.mg "zip" = none) (ha : PA X [e, e2] ta)
    (hs : starEach [e, e2] X.env = (false, eval e X.env) :: starEach [e2] X.env := by rfl) (hpl : (backTo pos (starEach [e2] X.env)).any (·.1) = false := by rfl) :
    PI X (.Tuple elts kk tpos) (.Call (.Name "zip" p) [e, e2] [] pos) (iZipS X.K ta) := by
  refine ⟨fun pins s σ H R I h => ?_⟩
  refine Call_ (ld_blt I hg hm PyProof.Rows.boot_zip (PyProof.Rows.callWith_type1 (thn (ha.run pos pins s σ H _ I h) fun us s1 ⟨vs, H1, I1, r1, q1⟩ => ?_) hs hpl))
  obtain ⟨x, b, ys, ex, hqy, q⟩ := q1
  subst ex
  cases r1 with
  | cons r rr =>
    cases rr with
    | cons r' rr =>
      cases rr
      obtain ⟨t, rfl⟩ := r
      cases r'
      obtain ⟨its2, rv2, p2, _⟩ := I1.list hqy
      have lb : b < s1.heap.objs.size := p2.lt
      refine zip_begins2 (begins_text x t) (begins_list b its2.toArray) trivial p2.isList fun h' hz hTI hTO h1 h2 hsz hk => wpAny_pyIter_zip hz ?_
      have I2 : Inv X pins σ H1 { s1 with heap := h' } := I1.kept (t' := s1.toks) hk
      refine ⟨s1.heap.objs.size + 4, [s1.heap.objs.size + 4, s1.heap.objs.size + 2, s1.heap.objs.size + 3, s1.heap.objs.size, s1.heap.objs.size + 1], _, _, H1, rfl, I2, turn_zipS (t := t) (b := b) ?_ ?_, ⟨hz, hTI, ⟨_, _, hTO⟩, ⟨_, h1, rfl, rfl⟩, ⟨_, h2, rfl, rfl⟩⟩, fun c hcm => ?_, q⟩
      · generalize s1.heap.objs.size = N
        simp only [List.nodup_cons, List.mem_cons, List.not_mem_nil, or_false, not_or, List.nodup_nil, and_true, not_false_eq_true]
        refine ⟨⟨?_, ?_, ?_, ?_⟩, ⟨?_, ?_, ?_⟩, ⟨?_, ?_⟩, ?_⟩ <;> (intro (z : (_ : Nat) = _); omega)
      · have q : ∀ k : Nat, b ≠ s1.heap.objs.size + k := fun k => Nat.ne_of_lt (Nat.lt_of_lt_of_le lb (Nat.le_add_right _ _))
        simp only [List.mem_cons, List.not_mem_nil, or_false, not_or]
        exact ⟨q 4, q 2, q 3, q 0, q 1⟩
      · have e' : c = s1.heap.objs.size + 4 ∨ c = s1.heap.objs.size + 2 ∨ c = s1.heap.objs.size + 3 ∨ c = s1.heap.objs.size ∨ c = s1.heap.objs.size + 1 := by simpa using hcm
        have hle : s1.heap.objs.size ≤ c := by
          rcases e' with z | z | z | z | z
          · rw [z]; exact Nat.le_add_right _ _
          · rw [z]; exact Nat.le_add_right _ _
          · rw [z]; exact Nat.le_add_right _ _
          · rw [z]; exact Nat.le_refl _
          · rw [z]; exact Nat.le_add_right _ _
        exact I1.fpOk hle (I1.hok.fresh hle)
theorem walk_zipS {K : PySem.W.Frag} {x : Str} {b : Addr} {ys : List V} (hl : x.cps.size = ys.length) : Walk (Itzs K x b) x.cps.size (fun H => SqL K H b ys) (YPair (fun i => x.cps[i]?.map fun c => .str ⟨#[c]⟩) (fun i => ys[i]?)) := by
  refine ⟨fun i _ hi q => ⟨hi, ys, ys[i]'(by omega), q, by simp [show i < ys.length by omega]⟩, fun _ q => ⟨rfl, ys, q, hl⟩, fun i H v H' _ q y => ?_⟩
  obtain ⟨T, c, y, h1, h2, h3, h4, h5⟩ := y
  exact ⟨T, .str ⟨#[c]⟩, y, h1, h2, h3, by show x.cps[i]?.map _ = _; rw [h4]; rfl, h5 ys q⟩
end Mr
end
section
set_option Elab.async false
set_option linter.all false
set_option maxRecDepth 100000
set_option maxHeartbeats 4000000
/-! own rules: zip(tuple, tuple, strict=True) -/
namespace Mr
open PySem PySem.Spec PyProof.Rows L2 RZ
abbrev IsZipS (h : Heap) (z TI TO : Addr) (f0 : Value) : Prop :=
  h.get? z = some { cls := .type "zip", dict := none, data := .fields #[f0, .bool false, .bool true, .ref TI, .ref TO], slots := #[] }
section
variable {prog : Program} {w : World} {A : Around} {E : Value → Shared → Prop} {s : Shared}
theorem nextOrEnd_item {it t : Addr} {i : Nat} {items : Array Value} {x : Value} {Q : Option Value → Shared → Prop} (hit : s.heap.IsTupleIter it t i) (ht : s.heap.IsTuple t items) (hx : items[i]? = some x)
    (hQ : ∀ h', h'.IsTupleIter it t (i + 1) → Heap.SameBut it s.heap h' → Q (some x) { s with heap := h' }) : wpAny (model prog w) A (Builtin.SmallTypes.nextOrEnd (.ref it)) Q E s := by
  unfold Builtin.SmallTypes.nextOrEnd
  exact wpAny_bind (wpAny_attempt (nextOf_tuple_item hit ht hx fun h' a b => wpAny_pure (hQ h' a b)))
theorem nextOrEnd_end {it t : Addr} {i : Nat} {items : Array Value} {Q : Option Value → Shared → Prop} (hh : A.handled = none) (hit : s.heap.IsTupleIter it t i) (ht : s.heap.IsTuple t items) (hx : items[i]? = none)
    (hQ : ∀ h', Heap.ExtBut it s.heap h' → Q none { s with heap := h' }) : wpAny (model prog w) A (Builtin.SmallTypes.nextOrEnd (.ref it)) Q E s := by
  unfold Builtin.SmallTypes.nextOrEnd
  refine wpAny_bind (wpAny_attempt (nextOf_tuple_end hh hit ht hx fun h' e hk he => ?_))
  obtain ⟨o, ho, hc⟩ := he
  refine wpAny_bind (wpAny_isInstance (T := "StopIteration") (b := true) ⟨o, ho, hc⟩ isSubtype_stop ?_)
  exact wpAny_pure (hQ h' hk)
theorem raise_stop {α : Type} {Q : α → Shared → Prop} (hh : A.handled = none)
    (hE : ∀ h' e, (∀ c o, s.heap.get? c = some o → h'.get? c = some o) → (∃ o, h'.get? e = some o ∧ o.cls = .type "StopIteration") → E (.ref e) { s with heap := h' }) :
    wpAny (model prog w) A (Builtin.SmallTypes.stopIteration (α := α)) Q E s := by
  unfold Builtin.SmallTypes.stopIteration
  refine wpAny_bind ?_
  simp only [newExc, newTuple]
  refine wpAny_bind (wpAny_newObj_type ?_ (by size_fits))
  refine wpAny_bind (m := firstArgMember _ _) (wpAny_of_eq (a := Value.none) (by first | rfl | (simp only [firstArgMember]; rfl)) ?_)
  refine wpAny_newObj_type ?_ (by size_fits)
  simp only [raiseNew]
  refine wpAny_bind (wpAny_handled ?_)
  first | rw [show A.in1.handled = none from hh] | rw [hh]
  refine wpAny_bind (wpAny_pure (wpAny_throw ?_))
  exact hE _ _ (fun c o e => Heap.get?_push_of_some _ (Heap.get?_push_of_some _ e)) ⟨_, Heap.get?_push_size _ rfl, rfl⟩

theorem zipS_next_item {z TI TO i1 i2 l1 l2 : Addr} {k1 k2 : Nat} {xs ys : Array Value} {x y a b : Value} {Q : Value → Shared → Prop} (D : ZipApart z TI TO i1 i2 l1 l2)
    (hz : IsZipS s.heap z TI TO .none) (hTI : IsPair s.heap TI (.ref i1) (.ref i2)) (hTO : IsPair s.heap TO a b)
    (h1 : s.heap.IsTupleIter i1 l1 k1) (h2 : s.heap.IsTupleIter i2 l2 k2) (hl1 : s.heap.IsTuple l1 xs) (hl2 : s.heap.IsTuple l2 ys) (hx : xs[k1]? = some x) (hy : ys[k2]? = some y)
    (hQ : ∀ h', IsZipS h' z TI TO (rawInt s.heap.objs.size) → IsPair h' TO x y → h'.IsTupleIter i1 l1 (k1 + 1) → h'.IsTupleIter i2 l2 (k2 + 1) → IsPair h' s.heap.objs.size x y → h'.objs.size = s.heap.objs.size + 1 →
      (∀ c o, c ≠ z → c ≠ TO → c ≠ i1 → c ≠ i2 → s.heap.get? c = some o → h'.get? c = some o) → Q (.ref s.heap.objs.size) { s with heap := h' }) :
    wpAny (model prog w) A (Builtin.«zip.__next__» ⟨[.ref z], []⟩) (fun fin s' => ∃ v, fin = .done (.ret v) ∧ Q v s') E s := by
  show wpAny _ _ (field (.ref z) 2 >>= _) _ _ _
  refine wpAny_bind (wpAny_field hz rfl (x := .bool true) rfl ?_)
  show wpAny _ _ (field (.ref z) 3 >>= _) _ _ _
  refine wpAny_bind (wpAny_field hz rfl (x := .ref TI) rfl ?_)
  refine wpAny_bind (wpAny_seqItems hTI rfl ?_)
  show wpAny _ _ (Builtin.SmallTypes.ownedTupleIsFree (.ref z) >>= _) _ _ _
  refine wpAny_bind ?_
  unfold Builtin.SmallTypes.ownedTupleIsFree
  refine wpAny_bind (wpAny_field hz rfl (x := .none) rfl (wpAny_pure ?_))
  simp only [if_true]
  refine wpAny_bind (wpAny_rule ?_)
  refine wpAny_bind (wpAny_field hz rfl (x := .ref TO) rfl ?_)
  refine wpAny_bind (wpAny_setField_rec hz (by simp) fun h₁ hz₁ hs₁ => ?_)
  replace hz₁ : IsZipS h₁ z TI TO .ellipsis := hz₁
  refine wpAny_bind ?_
  simp only [List.zipIdx_cons, List.zipIdx_nil, List.forIn_cons, List.forIn_nil]
  refine wpAny_bind (wpAny_bind (wpAny_onRaise ?_))
  show wpAny _ _ (Builtin.SmallTypes.nextOrEnd (.ref i1)) _ _ _
  refine nextOrEnd_item (h1.extBut hs₁.extBut D.i1z) (hl1.extBut hs₁.extBut D.l1z) hx fun h₂ h1₂ hs₂ => ?_
  have hTO₂ : IsPair h₂ TO a b := hs₂.extBut _ _ D.TOi1 (hs₁.extBut _ _ D.TOz hTO)
  refine wpAny_bind (wpAny_seqItems hTO₂ rfl ?_)
  refine wpAny_bind (wpAny_updateSeq_pair hTO₂ fun h₃ hTO₃ hs₃ => ?_)
  replace hTO₃ : IsPair h₃ TO x b := hTO₃
  refine wpAny_bind (wpAny_letGo (wpAny_pure ?_))
  refine wpAny_bind (wpAny_bind (wpAny_onRaise ?_))
  show wpAny _ _ (Builtin.SmallTypes.nextOrEnd (.ref i2)) _ _ _
  refine nextOrEnd_item (((h2.extBut hs₁.extBut D.i2z).extBut hs₂.extBut D.i12.symm).extBut hs₃.extBut D.TOi2.symm)
    (((hl2.extBut hs₁.extBut D.l2z).extBut hs₂.extBut D.l2i1).extBut hs₃.extBut D.l2TO) hy fun h₄ h2₄ hs₄ => ?_
  have hTO₄ : IsPair h₄ TO x b := hs₄.extBut _ _ D.TOi2 hTO₃
  refine wpAny_bind (wpAny_seqItems hTO₄ rfl ?_)
  refine wpAny_bind (wpAny_updateSeq_pair hTO₄ fun h₅ hTO₅ hs₅ => ?_)
  replace hTO₅ : IsPair h₅ TO x y := hTO₅
  refine wpAny_bind (wpAny_letGo (wpAny_pure (wpAny_pure ?_)))
  refine wpAny_bind (wpAny_seqItems hTO₅ rfl ?_)
  refine wpAny_bind (wpAny_newTuple ?_)
  have hsz : h₅.objs.size = s.heap.objs.size := by rw [hs₅.1, hs₄.1, hs₃.1, hs₂.1, hs₁.1]
  have hz₅ : IsZipS h₅ z TI TO .ellipsis := hs₅.extBut _ _ D.TOz.symm (hs₄.extBut _ _ D.i2z.symm (hs₃.extBut _ _ D.TOz.symm (hs₂.extBut _ _ D.i1z.symm hz₁)))
  have hk₅ : ∀ c o, c ≠ z → c ≠ TO → c ≠ i1 → c ≠ i2 → s.heap.get? c = some o → h₅.get? c = some o := fun c o c1 c2 c3 c4 e =>
    hs₅.extBut _ _ c2 (hs₄.extBut _ _ c4 (hs₃.extBut _ _ c2 (hs₂.extBut _ _ c3 (hs₁.extBut _ _ c1 e))))
  have h1₅ : h₅.IsTupleIter i1 l1 (k1 + 1) := ((h1₂.extBut hs₃.extBut D.TOi1.symm).extBut hs₄.extBut D.i12).extBut hs₅.extBut D.TOi1.symm
  have h2₅ : h₅.IsTupleIter i2 l2 (k2 + 1) := h2₄.extBut hs₅.extBut D.TOi2.symm
  have hzlt : z < h₅.objs.size := Heap.lt_size hz₅
  show wpAny _ _ (Builtin.SmallTypes.ownedTupleHandOut (.ref z) (.ref h₅.objs.size) >>= _) _ _ _
  refine wpAny_bind ?_
  unfold Builtin.SmallTypes.ownedTupleHandOut
  have hz₆ : IsZipS (h₅.push { cls := .type "tuple", data := .seq #[x, y] }) z TI TO .ellipsis := Heap.get?_push_of_some _ hz₅
  refine wpAny_bind (wpAny_setField_rec hz₆ (by simp) fun h₇ hz₇ hs₇ => ?_)
  replace hz₇ : IsZipS h₇ z TI TO (rawInt h₅.objs.size) := hz₇
  refine wpAny_setField_rec hz₇ (by simp) fun h₈ hz₈ hs₈ => ?_
  replace hz₈ : IsZipS h₈ z TI TO (rawInt h₅.objs.size) := hz₈
  have up : ∀ c o, c ≠ z → h₅.get? c = some o → h₈.get? c = some o := fun c o c1 e => hs₈.extBut _ _ c1 (hs₇.extBut _ _ c1 (Heap.get?_push_of_some _ e))
  have hT₈ : IsPair h₈ h₅.objs.size x y := hs₈.extBut _ _ (Nat.ne_of_gt hzlt) (hs₇.extBut _ _ (Nat.ne_of_gt hzlt) (Heap.get?_push_size _ rfl))
  have hz8 : h₈.objs.size = h₅.objs.size + 1 := by rw [hs₈.1, hs₇.1, Heap.size_push]
  rw [hsz] at hz₈ hT₈ hz8
  refine wpAny_pure ⟨_, rfl, ?_⟩
  show Q (.ref h₅.objs.size) _
  rw [hsz]
  exact hQ h₈ hz₈ (up _ _ D.TOz hTO₅) (h1₅.at fun o e => up _ o D.i1z e) (h2₅.at fun o e => up _ o D.i2z e) hT₈ hz8 fun c o c1 c2 c3 c4 e => up c o c1 (hk₅ c o c1 c2 c3 c4 e)

theorem zipS_next_end {z TI TO i1 i2 l1 l2 : Addr} {k1 k2 : Nat} {xs ys : Array Value} {a b : Value} {Q : Fin → Shared → Prop} (hh : A.handled = none) (D : ZipApart z TI TO i1 i2 l1 l2)
    (hz : IsZipS s.heap z TI TO .none) (hTI : IsPair s.heap TI (.ref i1) (.ref i2)) (hTO : IsPair s.heap TO a b)
    (h1 : s.heap.IsTupleIter i1 l1 k1) (h2 : s.heap.IsTupleIter i2 l2 k2) (hl1 : s.heap.IsTuple l1 xs) (hl2 : s.heap.IsTuple l2 ys) (hx : xs[k1]? = none) (hy : ys[k2]? = none)
    (hE : ∀ h' e, (∀ c o, c ≠ z → c ≠ TO → c ≠ i1 → c ≠ i2 → s.heap.get? c = some o → h'.get? c = some o) → (∃ o, h'.get? e = some o ∧ o.cls = .type "StopIteration") → E (.ref e) { s with heap := h' }) :
    wpAny (model prog w) A (Builtin.«zip.__next__» ⟨[.ref z], []⟩) Q E s := by
  show wpAny _ _ (field (.ref z) 2 >>= _) _ _ _
  refine wpAny_bind (wpAny_field hz rfl (x := .bool true) rfl ?_)
  show wpAny _ _ (field (.ref z) 3 >>= _) _ _ _
  refine wpAny_bind (wpAny_field hz rfl (x := .ref TI) rfl ?_)
  refine wpAny_bind (wpAny_seqItems hTI rfl ?_)
  show wpAny _ _ (Builtin.SmallTypes.ownedTupleIsFree (.ref z) >>= _) _ _ _
  refine wpAny_bind ?_
  unfold Builtin.SmallTypes.ownedTupleIsFree
  refine wpAny_bind (wpAny_field hz rfl (x := .none) rfl (wpAny_pure ?_))
  simp only [if_true]
  refine wpAny_bind (wpAny_rule ?_)
  refine wpAny_bind (wpAny_field hz rfl (x := .ref TO) rfl ?_)
  refine wpAny_bind (wpAny_setField_rec hz (by simp) fun h₁ hz₁ hs₁ => ?_)
  replace hz₁ : IsZipS h₁ z TI TO .ellipsis := hz₁
  refine wpAny_bind ?_
  simp only [List.zipIdx_cons, List.zipIdx_nil, List.forIn_cons, List.forIn_nil]
  refine wpAny_bind (wpAny_bind (wpAny_onRaise ?_))
  show wpAny _ _ (Builtin.SmallTypes.nextOrEnd (.ref i1)) _ _ _
  refine nextOrEnd_end hh (h1.extBut hs₁.extBut D.i1z) (hl1.extBut hs₁.extBut D.l1z) hx fun h₂ hs₂ => ?_
  have hz₂ : IsZipS h₂ z TI TO .ellipsis := hs₂ _ _ D.i1z.symm hz₁
  refine wpAny_bind (wpAny_setField_rec hz₂ (by simp) fun h₃ _ hs₃ => ?_)
  refine wpAny_bind ?_
  show wpAny _ _ (forIn (List.zipIdx [Value.ref i2] 1) PUnit.unit _ >>= _) _ _ _
  simp only [List.zipIdx_cons, List.zipIdx_nil, List.forIn_cons, List.forIn_nil]
  refine wpAny_bind (wpAny_bind ?_)
  refine wpAny_bind (nextOrEnd_end hh ((h2.extBut hs₁.extBut D.i2z).extBut hs₂ D.i12.symm |>.extBut hs₃.extBut D.i2z) (((hl2.extBut hs₁.extBut D.l2z).extBut hs₂ D.l2i1).extBut hs₃.extBut D.l2z) hy fun h₄ hs₄ => ?_)
  rw [if_neg (by simp)]
  refine wpAny_pure (wpAny_pure (wpAny_bind (wpAny_rule ?_)))
  refine raise_stop hh fun h₅ e hk he => ?_
  exact hE h₅ e (fun c o c1 c2 c3 c4 x => hk _ _ (hs₄ _ _ c4 (hs₃.extBut _ _ c1 (hs₂ _ _ c3 (hs₁.extBut _ _ c1 x))))) he

theorem pyNext_zipS_item {z TI TO i1 i2 l1 l2 : Addr} {k1 k2 : Nat} {xs ys : Array Value} {x y a b : Value} {Q : Option Value → Shared → Prop} (D : ZipApart z TI TO i1 i2 l1 l2)
    (hz : IsZipS s.heap z TI TO .none) (hTI : IsPair s.heap TI (.ref i1) (.ref i2)) (hTO : IsPair s.heap TO a b)
    (h1 : s.heap.IsTupleIter i1 l1 k1) (h2 : s.heap.IsTupleIter i2 l2 k2) (hl1 : s.heap.IsTuple l1 xs) (hl2 : s.heap.IsTuple l2 ys) (hx : xs[k1]? = some x) (hy : ys[k2]? = some y)
    (hQ : ∀ h', IsZipS h' z TI TO (rawInt s.heap.objs.size) → IsPair h' TO x y → h'.IsTupleIter i1 l1 (k1 + 1) → h'.IsTupleIter i2 l2 (k2 + 1) → IsPair h' s.heap.objs.size x y → h'.objs.size = s.heap.objs.size + 1 →
      (∀ c o, c ≠ z → c ≠ TO → c ≠ i1 → c ≠ i2 → s.heap.get? c = some o → h'.get? c = some o) → Q (some (.ref s.heap.objs.size)) { s with heap := h' }) :
    wpAny (model prog w) A (pyNext (.ref z)) Q E s := by
  have hT : s.TypeIs (.ref z) "zip" := ⟨_, hz, rfl⟩
  unfold pyNext
  exact wpAny_bind (wpAny_attempt (wpAny_callSpecial?_slot (name := Str.ofString "__next__") hT F.slot_zip_next
    (wpAny_call_entry F.slot_zip_next hT F.entry_zip_next
      (zipS_next_item D hz hTI hTO h1 h2 hl1 hl2 hx hy fun h' a1 a2 a3 a4 a5 a6 a7 => wpAny_pure (hQ h' a1 a2 a3 a4 a5 a6 a7)) (F.args_zip_next_1 _))))
theorem pyNext_zipS_end {z TI TO i1 i2 l1 l2 : Addr} {k1 k2 : Nat} {xs ys : Array Value} {a b : Value} {Q : Option Value → Shared → Prop} (hh : A.handled = none) (D : ZipApart z TI TO i1 i2 l1 l2)
    (hz : IsZipS s.heap z TI TO .none) (hTI : IsPair s.heap TI (.ref i1) (.ref i2)) (hTO : IsPair s.heap TO a b)
    (h1 : s.heap.IsTupleIter i1 l1 k1) (h2 : s.heap.IsTupleIter i2 l2 k2) (hl1 : s.heap.IsTuple l1 xs) (hl2 : s.heap.IsTuple l2 ys) (hx : xs[k1]? = none) (hy : ys[k2]? = none)
    (hQ : ∀ h', (∀ c o, c ≠ z → c ≠ TO → c ≠ i1 → c ≠ i2 → s.heap.get? c = some o → h'.get? c = some o) → Q none { s with heap := h' }) : wpAny (model prog w) A (pyNext (.ref z)) Q E s := by
  have hT : s.TypeIs (.ref z) "zip" := ⟨_, hz, rfl⟩
  unfold pyNext
  refine wpAny_bind (wpAny_attempt (wpAny_callSpecial?_slot (name := Str.ofString "__next__") hT F.slot_zip_next
    (wpAny_call_entry F.slot_zip_next hT F.entry_zip_next (zipS_next_end hh D hz hTI hTO h1 h2 hl1 hl2 hx hy fun h' e hk he => ?_) (F.args_zip_next_1 _))))
  obtain ⟨o, ho, hc⟩ := he
  refine wpAny_bind (wpAny_isInstance (T := "StopIteration") (b := true) ⟨o, ho, hc⟩ isSubtype_stop ?_)
  exact wpAny_pure (hQ _ hk)
end
theorem typeCall_zipS (a b : Value) : checkTypeCall "zip" ⟨[a, b], [(Str.ofString "strict", .bool true)]⟩ = pure () := by kernel_rfl
theorem newCall_zipS (a b : Value) : checkBuiltinCall "zip.__new__" ⟨[.type "zip", a, b], [(Str.ofString "strict", .bool true)]⟩ = pure () := by kernel_rfl
theorem args_initS (obj a b : Value) : argsOk "object.__init__" ⟨[obj, a, b], [(Str.ofString "strict", .bool true)]⟩ := by unfold argsOk; kernel_rfl
abbrev zipSH (h : Heap) (l1 l2 : Addr) : Heap := (zipTH4 h l1 l2).push { cls := .type "zip", data := .fields #[.none, .bool false, .bool true, .ref (zipTH2 h l1 l2).objs.size, .ref (zipTH3 h l1 l2).objs.size] }
theorem meets_zipS_new (l1 l2 : Addr) (xs ys : Array Value) :
    Meets (Builtin.«zip.__new__» ⟨[.type "zip", .ref l1, .ref l2], [(Str.ofString "strict", .bool true)]⟩) (fun _ R s => s.heap.IsTuple l1 xs ∧ s.heap.IsTuple l2 ys ∧
      R (.ok (.ret (.ref (zipTH4 s.heap l1 l2).objs.size))) { s with heap := zipSH s.heap l1 l2 }) :=
  .of_wp fun prog w A R s h => by
    obtain ⟨hp, g, d, tk, os⟩ := s; obtain ⟨hl1, hl2, h⟩ := h
    have hsub := sub_zip
    have hL1 : Heap.IsTuple (Shared.heap ⟨hp, g, d, tk, os⟩) l1 xs := hl1
    have hL2 : Heap.IsTuple (Shared.heap ⟨hp.push { cls := .type "tuple_iterator", data := .fields #[.ref l1, .int 0 0] }, g, d, tk, os⟩) l2 ys := Heap.IsTuple.push hl2 _
    have e2 : (Str.ofString "strict" != ("strict" : Str)) = false := by decide +kernel
    have e3 : (Str.ofString "strict" == ("strict" : Str)) = true := by decide +kernel
    wp_walk using wpAny_pyIter_tuple hL1, wpAny_pyIter_tuple hL2
    exact ⟨_, rfl, h⟩
section
variable {prog : Program} {w : World} {A : Around} {E : Value → Shared → Prop} {s : Shared}
theorem call_zipS {l1 l2 : Addr} {xs ys : Array Value} {Q : Value → Shared → Prop} (hl1 : s.heap.IsTuple l1 xs) (hl2 : s.heap.IsTuple l2 ys)
    (h : ∀ h', IsZipS h' (s.heap.objs.size + 4) (s.heap.objs.size + 2) (s.heap.objs.size + 3) .none → IsPair h' (s.heap.objs.size + 2) (.ref s.heap.objs.size) (.ref (s.heap.objs.size + 1)) →
      IsPair h' (s.heap.objs.size + 3) .none .none → h'.IsTupleIter s.heap.objs.size l1 0 → h'.IsTupleIter (s.heap.objs.size + 1) l2 0 → h'.objs.size = s.heap.objs.size + 5 →
      (∀ c o, s.heap.get? c = some o → h'.get? c = some o) → Q (.ref (s.heap.objs.size + 4)) { s with heap := h' }) :
    wpAny (model prog w) A (call (.type "zip") [.ref l1, .ref l2] [(Str.ofString "strict", .bool true)]) Q E s := by
  refine callType_newKw F.called_zip (by decide) (typeCall_zipS _ _) (newCall_zipS _ _) (fun obj => args_initS obj _ _) F.entry_zip_new
    (meets_zipS_new l1 l2 xs ys) ⟨hl1, hl2, ?_⟩
  have z1 : (zipTH1 s.heap l1).objs.size = s.heap.objs.size + 1 := Heap.size_push ..
  have z2 : (zipTH2 s.heap l1 l2).objs.size = s.heap.objs.size + 2 := by rw [Heap.size_push, z1]
  have z3 : (zipTH3 s.heap l1 l2).objs.size = s.heap.objs.size + 3 := by rw [Heap.size_push, z2]
  have z4 : (zipTH4 s.heap l1 l2).objs.size = s.heap.objs.size + 4 := by rw [Heap.size_push, z3]
  have z5 : (zipSH s.heap l1 l2).objs.size = s.heap.objs.size + 5 := by rw [Heap.size_push, z4]
  have g5 : (zipSH s.heap l1 l2).get? (zipTH4 s.heap l1 l2).objs.size = some _ := Heap.get?_push_size _ rfl
  have g4 : (zipSH s.heap l1 l2).get? (zipTH3 s.heap l1 l2).objs.size = some _ := Heap.get?_push_of_some _ (Heap.get?_push_size _ rfl)
  have g3 : (zipSH s.heap l1 l2).get? (zipTH2 s.heap l1 l2).objs.size = some _ := Heap.get?_push_of_some _ (Heap.get?_push_of_some _ (Heap.get?_push_size _ rfl))
  have g2 : (zipSH s.heap l1 l2).get? (zipTH1 s.heap l1).objs.size = some _ := Heap.get?_push_of_some _ (Heap.get?_push_of_some _ (Heap.get?_push_of_some _ (Heap.get?_push_size _ rfl)))
  have g1 : (zipSH s.heap l1 l2).get? s.heap.objs.size = some _ := Heap.get?_push_of_some _ (Heap.get?_push_of_some _ (Heap.get?_push_of_some _ (Heap.get?_push_of_some _ (Heap.get?_push_size _ rfl))))
  show _ ∧ _
  rw [z2, z3, z4] at g5
  rw [z1, z2] at g3
  rw [z3] at g4
  rw [z1] at g2
  rw [z4]
  exact ⟨⟨_, g5, rfl⟩, h _ g5 g3 g4 ⟨_, g1, rfl, rfl⟩ ⟨_, g2, rfl, rfl⟩ z5 fun c o x =>
    Heap.get?_push_of_some _ (Heap.get?_push_of_some _ (Heap.get?_push_of_some _ (Heap.get?_push_of_some _ (Heap.get?_push_of_some _ x))))⟩
end
/-- two tuples of one length, strictly -/
def ItzG (K : PySem.W.Frag) (a b : Addr) : It :=
  ⟨fun i H => ∃ (xs ys : List V) (x y : V), SqT K H a xs ∧ SqT K H b ys ∧ xs[i]? = some x ∧ ys[i]? = some y,
    fun i H v H' => ∃ T x y, v = .ref T ∧ H T = none ∧ H' = upd H T (.tup [x, y]) ∧ (∀ xs, SqT K H a xs → xs[i]? = some x) ∧ ∀ ys, SqT K H b ys → ys[i]? = some y,
    fun i H => ∃ xs ys : List V, SqT K H a xs ∧ SqT K H b ys ∧ xs.length ≤ i ∧ ys.length ≤ i⟩
theorem wpAny_pyIter_zipS {prog : Program} {w : World} {A : Around} {E : Value → Shared → Prop} {s : Shared} {z TI TO : Addr} {f0 : Value} {Q : Value → Shared → Prop} (hz : IsZipS s.heap z TI TO f0) (h : Q (.ref z) s) : wpAny (model prog w) A (pyIter (.ref z)) Q E s := by
  have hT : s.TypeIs (.ref z) "zip" := ⟨_, hz, rfl⟩
  exact wpAny_pyIter_slot hT F.slot_zip_iter (wpAny_call_entry F.slot_zip_iter hT F.entry_zip_iter (by
    show wpAny _ _ (ret (.ref z)) _ _ s
    exact wpAny_pure ⟨_, rfl, "zip", _, hT, F.slot_zip_next.lookup, h⟩) (F.args_zip_iter_1 _))
theorem go_zipS {prog : Program} {w : World} {A : Around} {E : Value → Shared → Prop} {s : Shared} {elts : List Expr} {k : Nat} {pos : Pos} {z TI TO T : Addr} {Q : Unit → Shared → Prop} (hz : IsZipS s.heap z TI TO (rawInt T))
    (hQ : ∀ h', IsZipS h' z TI TO .none → Heap.SameBut z s.heap h' → Q () { s with heap := h' }) : wpAny (model prog w) A (letOwnedTupleGo (.Tuple elts k pos) (.ref z) (.ref T)) Q E s := by
  unfold letOwnedTupleGo
  refine wpAny_bind (wpAny_load hz ?_)
  show wpAny _ _ (if (["enumerate", "zip", "dict_itemiterator", "dict_reverseitemiterator", "odict_iterator", "itertools.zip_longest", "itertools.pairwise"].contains "zip" &&
      (#[rawInt T, .bool false, .bool true, .ref TI, .ref TO] : Array Value)[0]? == some (rawInt T)) = true then _ else _) Q E s
  rw [if_pos (by simp)]
  refine wpAny_bind (wpAny_rule ?_)
  show wpAny _ _ (setField (.ref z) 0 .none) Q E s
  exact wpAny_setField_rec hz (by simp) fun h' hz' hs' => hQ h' hz' hs'
theorem turn_zipG {P : Program} {w : World} {K : PySem.W.Frag} {elts : List Expr} {kk : Nat} {tpos : Pos} {a b z TI TO i1 i2 : Addr} (D : ZipApart z TI TO i1 i2 a b) :
    Turn P w K (.Tuple elts kk tpos) (ItzG K a b) [z, TI, TO, i1, i2] z (fun i h => IsZipS h z TI TO .none ∧ IsPair h TI (.ref i1) (.ref i2) ∧ (∃ x y, IsPair h TO x y) ∧ h.IsTupleIter i1 a i ∧ h.IsTupleIter i2 b i) where
  mem := by simp
  obj := fun i h st c hc => by
    obtain ⟨hz, hTI, ⟨x, y, hTO⟩, ⟨o1, e1, _, d1⟩, ⟨o2, e2, _, d2⟩⟩ := st
    have e' : c = z ∨ c = TI ∨ c = TO ∨ c = i1 ∨ c = i2 := by simpa using hc
    rcases e' with q | q | q | q | q
    · rw [q]; exact ⟨_, hz, fun v q => nomatch q⟩
    · rw [q]; exact ⟨_, hTI, fun v q => nomatch q⟩
    · rw [q]; exact ⟨_, hTO, fun v q => nomatch q⟩
    · rw [q]; exact ⟨o1, e1, fun v q => by rw [d1] at q; cases q⟩
    · rw [q]; exact ⟨o2, e2, fun v q => by rw [d2] at q; cases q⟩
  keep := fun i h h' st k => by
    obtain ⟨hz, hTI, ⟨x, y, hTO⟩, h1, h2⟩ := st
    exact ⟨k z (by simp) _ hz, k TI (by simp) _ hTI, ⟨x, y, k TO (by simp) _ hTO⟩, h1.at fun o q => k i1 (by simp) o q, h2.at fun o q => k i2 (by simp) o q⟩
  item := by
    intro X hP hw hK hc i pins s σ H E I hf st hg
    subst hP hw hK
    obtain ⟨hz, hTI, ⟨x0, y0, hTO⟩, h1, h2⟩ := st
    obtain ⟨xs, ys, x, y, hqx, hqy, hx, hy⟩ := hg
    obtain ⟨its, rv, p, _⟩ := I.tuple hqx
    obtain ⟨its2, rv2, p2, _⟩ := I.tuple hqy
    obtain ⟨u, hu, ru⟩ := rv.get hx
    obtain ⟨u2, hu2, ru2⟩ := rv2.get hy
    have hzl : z < s.heap.objs.size := Heap.lt_size hz
    refine pyNext_zipS_item D hz hTI hTO h1 h2 p p2 (x := u) (y := u2) (by simpa using hu) (by simpa using hu2) fun h' z' TO' h1' h2' hT hsz hk => ?_
    refine ⟨_, rfl, go_zipS (s := { s with heap := h' }) z' fun h'' z'' sb => ?_⟩
    have hT2 : h''.get? s.heap.objs.size = some { cls := .type "tuple", data := .seq #[u, u2] } := (sb.2 _ (Nat.ne_of_gt hzl)).trans hT
    have new : ObjOk X.prog X.w (upd H s.heap.objs.size (.tup [x, y])) h'' s.heap.objs.size (.tup [x, y]) :=
      ⟨by show 2 ≤ sizeLine; decide, [u, u2], .cons ru (.cons ru2 .nil), ⟨_, hT2, rfl, _, rfl⟩⟩
    have I1 : Inv X pins σ (upd H s.heap.objs.size (.tup [x, y])) { s with heap := h'' } :=
      I.turnedNew (t' := s.toks) (ch := [z, TI, TO, i1, i2]) (fun c o hb q => (sb.2 c (fun q' => hb (by simp [q']))).trans (hk c o (fun q' => hb (by simp [q'])) (fun q' => hb (by simp [q'])) (fun q' => hb (by simp [q'])) (fun q' => hb (by simp [q'])) q)) hf (Nat.le_refl _) new
    refine ⟨.ref s.heap.objs.size, _, I1, rfl, ⟨_, x, y, rfl, I.hok.fresh (Nat.le_refl _), rfl, fun l hl => by rw [I.tuple_inj hl hqx]; exact hx, fun l hl => by rw [I.tuple_inj hl hqy]; exact hy⟩, ⟨z'', ?_, ⟨u, u2, ?_⟩, ?_, ?_⟩, fun c hcm => ?_⟩
    · exact (sb.2 _ D.TIz).trans (hk _ _ D.TIz D.TITO D.TIi1 D.TIi2 hTI)
    · exact (sb.2 _ D.TOz).trans TO'
    · exact h1'.at fun o q => (sb.2 _ D.i1z).trans q
    · exact h2'.at fun o q => (sb.2 _ D.i2z).trans q
    · have hlt : c < s.heap.objs.size := by
        have e' : c = z ∨ c = TI ∨ c = TO ∨ c = i1 ∨ c = i2 := by simpa using hcm
        rcases e' with q | q | q | q | q
        · rw [q]; exact hzl
        · rw [q]; exact Heap.lt_size hTI
        · rw [q]; exact Heap.lt_size hTO
        · rw [q]; obtain ⟨_, e1, _⟩ := h1; exact Heap.lt_size e1
        · rw [q]; obtain ⟨_, e2, _⟩ := h2; exact Heap.lt_size e2
      rw [upd_ne (Nat.ne_of_lt hlt)]
      exact (hf c hcm).1
  done := by
    intro X hP hw hK hc i pins s σ H E I hf st hg
    subst hP hw hK
    obtain ⟨hz, hTI, ⟨x0, y0, hTO⟩, h1, h2⟩ := st
    obtain ⟨xs, ys, hqx, hqy, he1, he2⟩ := hg
    obtain ⟨its, rv, p, _⟩ := I.tuple hqx
    obtain ⟨its2, rv2, p2, _⟩ := I.tuple hqy
    have l1 := rv.length
    have l2 := rv2.length
    have he1' : its.toArray[i]? = none := by simp; omega
    have he2' : its2.toArray[i]? = none := by simp; omega
    exact pyNext_zipS_end (I.ok.hd hc) D hz hTI hTO h1 h2 p p2 he1' he2' fun h' hk => ⟨rfl, I.turnedL (t' := s.toks) (ch := [z, TI, TO, i1, i2]) (fun c o hb q =>
      hk c o (fun q' => hb (by simp [q'])) (fun q' => hb (by simp [q'])) (fun q' => hb (by simp [q'])) (fun q' => hb (by simp [q'])) q) hf⟩
  self := fun A i s Q E st h => wpAny_pyIter_zipS st.1 h
def iZipG (K : PySem.W.Frag) (ta : TA) : TI := fun σ H R => ta σ H fun vs H1 => ∃ a b xs ys, vs = [.ref a, .ref b] ∧ SqT K H1 a xs ∧ SqT K H1 b ys ∧ R (ItzG K a b) H1
theorem pi_zipG {X : Cx} {e e2 : Expr} {ta : TA} {p pos tpos kpos p3 : Pos} {j : Nat} {elts : List Expr} {kk : Nat} (hg : Gl X "zip") (hm : X.mg "zip" = none) (ha : PA X [e, e2] ta)
    (hs : starEach [e, e2] X.env = (false, eval e X.env) :: starEach [e2] X.env := by rfl)
    (hpl : ((backTo pos (starEach [e, e2] X.env)).any (·.1) || (backToKw pos (keywordEach [⟨some (Str.ofString "strict"), .Constant (.bool true) j p3, kpos⟩] X.env)).any (·.1.isNone)) = false := by rfl)
    (hall : (backToKw pos (keywordEach [⟨some (Str.ofString "strict"), .Constant (.bool true) j p3, kpos⟩] X.env)).all (·.1.isSome) = true := by rfl)
    (hks : (backToKw pos (keywordEach [⟨some (Str.ofString "strict"), .Constant (.bool true) j p3, kpos⟩] X.env)).filterMap (·.1) = [Str.ofString "strict"] := by rfl) :
    PI X (.Tuple elts kk tpos) (.Call (.Name "zip" p) [e, e2] [⟨some (Str.ofString "strict"), .Constant (.bool true) j p3, kpos⟩] pos) (iZipG X.K ta) := by
  refine ⟨fun pins s σ H R I h => ?_⟩
  have hkw : PK X [⟨some (Str.ofString "strict"), .Constant (.bool true) j p3, kpos⟩] (tCons (tC (.bl true)) tNil) := pk_cons pe_bl pk_nil
  refine wpAny_Call_Name_kw (ld_blt I hg hm PyProof.Rows.boot_zip ?_)
  refine PySem.W.callWith_of (P := fun _ => True) hpl (fun h _ => ⟨.machine, .inr (.inl rfl), .of_pure rfl⟩) (PyProof.Rows.evalArgs_kw2 hall (thn (ha.run pos pins s σ H _ I h) fun us s1 ⟨vs, H1, I1, r1, q1⟩ => ?_) hs)
  obtain ⟨a, b, xs, ys, ex, hqx, hqy, q⟩ := q1
  refine thn (hkw.run pos pins s1 σ H1 (fun zs H2 => zs = [.bl true] ∧ H2 = H1) I1 ⟨rfl, rfl⟩) fun ws s2 ⟨zs, H2, I2, rz, e1, e2⟩ => ⟨trivial, ?_⟩
  subst e1
  subst e2
  subst ex
  rw [hks]
  cases rz with
  | cons rb rn =>
    cases rn
    cases rb
    cases r1 with
    | cons r rr =>
      cases rr with
      | cons r' rr =>
        cases rr
        cases r
        cases r'
        obtain ⟨its, rv, p1, _⟩ := I2.tuple hqx
        obtain ⟨its2, rv2, p2, _⟩ := I2.tuple hqy
        obtain ⟨o1, ho1, _⟩ := id p1
        obtain ⟨o2, ho2, _⟩ := id p2
        refine call_zipS (show s2.heap.IsTuple a its.toArray from p1) (show s2.heap.IsTuple b its2.toArray from p2) fun h' hz hTI hTO h1 h2 hsz hk => wpAny_pyIter_zipS hz ?_
        have I3 : Inv X pins σ H2 { s2 with heap := h' } := I2.kept (t' := s2.toks) hk
        refine ⟨s2.heap.objs.size + 4, [s2.heap.objs.size + 4, s2.heap.objs.size + 2, s2.heap.objs.size + 3, s2.heap.objs.size, s2.heap.objs.size + 1], _, _, H2, rfl, I3, turn_zipG (PySem.W.ktu_apart s2.heap.objs.size a b (Heap.lt_size ho1) (Heap.lt_size ho2)), ⟨hz, hTI, ⟨_, _, hTO⟩, h1, h2⟩, fun c hcm => ?_, q⟩
        have e' : c = s2.heap.objs.size + 4 ∨ c = s2.heap.objs.size + 2 ∨ c = s2.heap.objs.size + 3 ∨ c = s2.heap.objs.size ∨ c = s2.heap.objs.size + 1 := by simpa using hcm
        have hle : s2.heap.objs.size ≤ c := by
          rcases e' with z | z | z | z | z
          · rw [z]; exact Nat.le_add_right _ _
          · rw [z]; exact Nat.le_add_right _ _
          · rw [z]; exact Nat.le_add_right _ _
          · rw [z]; exact Nat.le_refl _
          · rw [z]; exact Nat.le_add_right _ _
        exact I2.fpOk hle (I2.hok.fresh hle)
theorem walk_zipG {K : PySem.W.Frag} {a b : Addr} {xs ys : List V} (hl : xs.length = ys.length) : Walk (ItzG K a b) xs.length (fun H => SqT K H a xs ∧ SqT K H b ys) (YPair (fun i => xs[i]?) (fun i => ys[i]?)) := by
  refine ⟨fun i _ hi q => ?_, fun _ q => ⟨xs, ys, q.1, q.2, by omega, by omega⟩, fun i H v H' _ q y => ?_⟩
  · have h2 : i < ys.length := by omega
    exact ⟨xs, ys, xs[i], ys[i], q.1, q.2, by simp [hi], by simp [h2]⟩
  · obtain ⟨T, x, z, h1, h2, h3, h4, h5⟩ := y
    exact ⟨T, x, z, h1, h2, h3, h4 xs q.1, h5 ys q.2⟩
end Mr
end
section
set_option Elab.async false
set_option linter.all false
set_option maxRecDepth 100000
set_option maxHeartbeats 4000000
/-! own rules: text[::-1], tuple[::-1], sum(tuple), len(own object) -/
namespace Mr
open PySem PySem.Spec PyProof.Rows L2
/-! ### text[::-1] -/
def revS (z : Str) : Str := ⟨z.cps.toList.reverse.toArray⟩
theorem revS_len (z : Str) : (revS z).length = z.length := by
  show z.cps.toList.reverse.toArray.size = z.cps.size
  simp
theorem picked_rev (z : Str) : (Builtin.Str.strSliceIndices none none (-1) z.length).filterMap (z.cps[·]?) = z.cps.toList.reverse := by
  have e : Builtin.Str.strSliceIndices none none (-1) z.length = sliceRange ((z.cps.size : Int) - 1) (-1) (-1) := rfl
  rw [e, PySem.W.krv_sliceRange, PySem.W.krv_range, List.filterMap_reverse, PySem.W.krv_all]
def tRevS (te : TE) : TE := fun σ H Q => te σ H fun x H1 => ∃ z, x = .str z ∧ z.length ≤ sizeLine ∧ Q (.str (revS z)) H1
theorem pe_revS {X : Cx} {e : Expr} {te : TE} {k : Nat} {p1 p2 p3 pos : Pos} (he : PE X e te) : PE X (.Subscript e (.Slice none none (some (.UnaryOp .USub (.Constant (.int 1) k p1) p2)) p3) pos) (tRevS te) := by
  refine ⟨fun pins s σ H Q I h => ?_⟩
  refine Subscript_ (thn (he.run pins s σ H _ I h) fun v s1 ⟨x, H1, I1, r1, q1⟩ => ?_)
  obtain ⟨z, ex, hz, q⟩ := q1
  subst ex
  obtain ⟨t, rfl⟩ := r1
  have hst : PO X (some (.UnaryOp .USub (.Constant (.int 1) k p1) p2)) (tPart (tUn (rU fun i => .int (-i)) (tC (.int 1)))) := po_some (pe_un un_neg pe_int)
  refine wpAny_Slice (thn (po_none.run pins s1 σ H1 (fun o H2 => o = none ∧ H2 = H1) I1 ⟨rfl, rfl⟩) fun vl s2 ⟨l, H2, I2, pl, el, e2⟩ => ?_)
  subst el e2
  refine thn (po_none.run pins s2 σ H2 (fun o H3 => o = none ∧ H3 = H2) I2 ⟨rfl, rfl⟩) fun vu s3 ⟨u, H3, I3, pu, eu, e3⟩ => ?_
  subst eu e3
  refine thn (hst.run pins s3 σ H3 (fun o H4 => o = some (-1) ∧ H4 = H3) I3 ⟨1, rfl, -1, rfl, rfl, rfl⟩) fun vs s4 ⟨o, H4, I4, ps, eo, e4⟩ => ?_
  subst eo e4
  have I5 : Inv X pins σ H4 { s4 with heap := s4.heap.push { cls := .type "slice", data := .fields #[vl, vu, vs] } } := I4.kept (t' := s4.toks) fun b ob q => Heap.get?_push_of_some _ q
  show wpAny (model X.prog X.w) X.A (subscriptTail e (.Slice none none (some (.UnaryOp .USub (.Constant (.int 1) k p1) p2)) p3) (.str z t) (.ref s4.heap.objs.size)) (EP X pins σ Q) X.xe { s4 with heap := s4.heap.push { cls := .type "slice", data := .fields #[vl, vu, vs] } }
  refine tail_any (ops := [.str z t, .ref s4.heap.objs.size]) (typeIs_str _ _ _) (PySem.F.slot_str_getitem.lookup) ?_ (by with_unfolding_all rfl)
  obtain ⟨l, rfl, el⟩ := IsPart.raw pl
  obtain ⟨u, rfl, eu⟩ := IsPart.raw pu
  obtain ⟨st, rfl, es⟩ := IsPart.raw ps
  cases l with
  | some l => cases el
  | none =>
    cases u with
    | some u => cases eu
    | none =>
      cases st with
      | none => cases es
      | some st =>
        obtain ⟨si, stk⟩ := st
        have e1 : si = -1 := by simpa using es
        subst e1
        refine wpAny_getItem_str_slice (l := none) (u := none) (st := some (-1, stk)) ⟨_, Heap.get?_push_size _ rfl, rfl, rfl⟩ rfl ?_
        have e2 : sliceMade z t none none (some (-1, stk)) = .str (revS z) := by
          unfold sliceMade revS
          rw [if_neg (by simp)]
          show Made.str ⟨((Builtin.Str.strSliceIndices none none (-1) z.length).filterMap (z.cps[·]?)).toArray⟩ = _
          rw [picked_rev]
        rw [e2]
        exact ⟨by rw [revS_len]; exact hz, .str _, H4, I5.tok _, ⟨_, rfl⟩, q⟩

/-! ### tuple[::-1] -/
theorem sliceApplied_rev {prog : Program} {w : World} {A : Around} {E : Value → Shared → Prop} {s : Shared} {sl : Addr} {vl vu vs : Value} {n : Nat} {Q : Int × Int × Nat → Shared → Prop} (hs : s.heap.IsSliceOf sl vl vu vs) (pl : IsPart vl none) (pu : IsPart vu none) (ps : IsPart vs (some (-1)))
    (h : Q ((n : Int) - 1, -1, n) s) : wpAny (model prog w) A (Builtin.Slice.sliceApplied (.ref sl) (pure (n : Int))) Q E s := by
  obtain ⟨os, hos, hcs, hds⟩ := id hs
  unfold Builtin.Slice.sliceApplied Builtin.Slice.sliceFields
  refine wpAny_bind (wpAny_bind (wpAny_field hos hds (x := vl) rfl (wpAny_bind (wpAny_field hos hds (x := vu) rfl (wpAny_bind (wpAny_field hos hds (x := vs) rfl (wpAny_pure ?_)))))))
  refine wpAny_bind (HT.slicePart_ ps ?_)
  show wpAny _ _ (if ((-1 : Int) == 0) = true then _ else _) _ _ s
  rw [if_neg (by decide)]
  refine wpAny_bind (HT.slicePart_ pl (wpAny_bind (HT.slicePart_ pu (wpAny_bind (wpAny_pure ?_)))))
  show wpAny _ _ (pure ((n : Int) - 1, (-1 : Int), Builtin.Slice.slicePlaces ((n : Int) - 1) (-1) (-1))) _ _ s
  have e : Builtin.Slice.slicePlaces ((n : Int) - 1) (-1) (-1) = n := by
    unfold Builtin.Slice.slicePlaces
    rw [if_neg (by decide)]
    by_cases z : (n : Int) - 1 > -1
    · rw [if_pos z]
      have e2 : ((n : Int) - 1 - -1 - 1) / (- -1) + 1 = (n : Int) := by
        rw [show (- -1 : Int) = 1 by decide, Int.ediv_one]; omega
      rw [e2]; omega
    · rw [if_neg z]; omega
  rw [e]
  exact wpAny_pure h
theorem pick_back (xs : Array Value) : ((List.range xs.size).filterMap fun (m : Nat) => xs[(((xs.size : Int) - 1) + (m : Int) * (-1)).toNat]?).toArray = xs.toList.reverse.toArray := by
  have e : (List.range xs.size).filterMap (fun (m : Nat) => xs[(((xs.size : Int) - 1) + (m : Int) * (-1)).toNat]?) = ((List.range xs.size).map fun k => xs.size - 1 - k).filterMap (xs[·]?) := by
    rw [List.filterMap_map]
    have key : ∀ l : List Nat, (∀ m ∈ l, m < xs.size) → l.filterMap (fun (m : Nat) => xs[(((xs.size : Int) - 1) + (m : Int) * (-1)).toNat]?) = l.filterMap ((fun x => xs[x]?) ∘ fun k => xs.size - 1 - k) := by
      intro l
      induction l with
      | nil => intro _; rfl
      | cons m l ih =>
        intro hl
        have hm := hl m (by simp)
        have e1 : xs[(((xs.size : Int) - 1) + (m : Int) * (-1)).toNat]? = xs[xs.size - 1 - m]? := by
          congr 1
          omega
        rw [List.filterMap_cons, List.filterMap_cons, ih fun k hk => hl k (by simp [hk])]
        have e2 : ((fun x => xs[x]?) ∘ fun k => xs.size - 1 - k) m = xs[xs.size - 1 - m]? := rfl
        rw [e1, e2]
    exact key _ fun m hm => List.mem_range.mp hm
  rw [e, PySem.W.krv_range, List.filterMap_reverse, PySem.W.krv_all]
theorem getItem_tuple_rev {prog : Program} {w : World} {A : Around} {E : Value → Shared → Prop} {s : Shared} {t sl : Addr} {items : Array Value} {vl vu vs : Value} {Q : Value → Shared → Prop} (ht : IsTup s.heap t items) (hs : s.heap.IsSliceOf sl vl vu vs) (pl : IsPart vl none) (pu : IsPart vu none) (ps : IsPart vs (some (-1)))
    (h : Q (.ref s.heap.objs.size) { s with heap := s.heap.push { cls := .type "tuple", data := .seq items.toList.reverse.toArray } })
    (hsz : items.size ≤ sizeLine) : wpAny (model prog w) A (getItem (.ref t) (.ref sl)) Q E s := by
  have htake : sizeOk (.seq items.toList.reverse.toArray) := by
    show items.toList.reverse.toArray.size ≤ sizeLine
    rw [List.size_toArray, List.length_reverse, Array.length_toList]
    exact hsz
  obtain ⟨os, hos, hcs, hds⟩ := id hs
  have hTs : s.TypeIs (.ref sl) "slice" := ⟨os, hos, hcs⟩
  unfold getItem
  try with_reducible refine wpAny_holding ?_
  first | refine wpAny_bind (wpAny_pure ?_) | skip
  refine wpAny_bind (wpAny_sequenceKey ht.typeIs (by decide) ?_)
  refine wpAny_bind (wpAny_callSpecial?_slot (name := Str.ofString "__getitem__") ht.typeIs PyProof.Rows.slot_tuple_getitem
    (wpAny_call_entry PyProof.Rows.slot_tuple_getitem ht.typeIs entry_tuple_getitem ?_ (args_tuple_getitem _ _)))
  show wpAny _ _ (Builtin.Tuple.tupleItemsOf (.ref t) >>= _) _ _ s
  refine wpAny_bind (tupleItemsOf_ ht ?_)
  refine wpAny_bind (wpAny_typeOf hTs ?_)
  rw [if_pos (by decide)]
  refine wpAny_bind (sliceApplied_rev hs pl pu ps ?_)
  have hno : ¬ ((((items.size : Int) - 1) == 0 && (-1 : Int) == 1 && items.size == items.size) = true) := by
    intro q
    rw [Bool.and_eq_true, Bool.and_eq_true] at q
    exact absurd q.1.2 (by decide)
  show wpAny _ _ (if (((items.size : Int) - 1) == 0 && (-1 : Int) == 1 && items.size == items.size) = true then _ else _) _ _ s
  rw [if_neg hno, pick_back]
  first
    | exact wpAny_bind (m := Builtin.Tuple.tupleExact _) (wpAny_newObj_type (wpAny_pure ⟨_, rfl, wpAny_pure h⟩) htake)
    | exact wpAny_bind (m := Builtin.Tuple.tupleExact _) (wpAny_newObj_type (wpAny_bind (wpAny_pure (wpAny_pure ⟨_, rfl, wpAny_pure h⟩))) htake)
    | exact wpAny_bind (wpAny_bind (m := Builtin.Tuple.tupleExact _) (wpAny_newObj_type (wpAny_pure (wpAny_pure ⟨_, rfl, wpAny_pure h⟩)) htake))
    | exact wpAny_bind (wpAny_bind (m := Builtin.Tuple.tupleExact _) (wpAny_newObj_type (wpAny_pure ⟨_, rfl, wpAny_pure h⟩) htake))
def tRevT (K : PySem.W.Frag) (te : TE) : TE := fun σ H Q => te σ H fun x H1 => ∃ a xs, x = .ref a ∧ SqT K H1 a xs ∧ ∀ p, H1 p = none → Q (.ref p) (upd H1 p (.tup xs.reverse))
theorem pe_revT {X : Cx} {e : Expr} {te : TE} {k : Nat} {p1 p2 p3 pos : Pos} (he : PE X e te) : PE X (.Subscript e (.Slice none none (some (.UnaryOp .USub (.Constant (.int 1) k p1) p2)) p3) pos) (tRevT X.K te) := by
  refine ⟨fun pins s σ H Q I h => ?_⟩
  refine Subscript_ (thn (he.run pins s σ H _ I h) fun v s1 ⟨x, H1, I1, r1, q1⟩ => ?_)
  obtain ⟨a, xs, ex, hx, q⟩ := q1
  subst ex
  cases r1
  have hst : PO X (some (.UnaryOp .USub (.Constant (.int 1) k p1) p2)) (tPart (tUn (rU fun i => .int (-i)) (tC (.int 1)))) := po_some (pe_un un_neg pe_int)
  refine wpAny_Slice (thn (po_none.run pins s1 σ H1 (fun o H2 => o = none ∧ H2 = H1) I1 ⟨rfl, rfl⟩) fun vl s2 ⟨l, H2, I2, pl, el, e2⟩ => ?_)
  subst el e2
  refine thn (po_none.run pins s2 σ H2 (fun o H3 => o = none ∧ H3 = H2) I2 ⟨rfl, rfl⟩) fun vu s3 ⟨u, H3, I3, pu, eu, e3⟩ => ?_
  subst eu e3
  refine thn (hst.run pins s3 σ H3 (fun o H4 => o = some (-1) ∧ H4 = H3) I3 ⟨1, rfl, -1, rfl, rfl, rfl⟩) fun vs s4 ⟨o, H4, I4, ps, eo, e4⟩ => ?_
  subst eo e4
  have I5 : Inv X pins σ H4 { s4 with heap := s4.heap.push { cls := .type "slice", data := .fields #[vl, vu, vs] } } := I4.kept (t' := s4.toks) fun b ob q => Heap.get?_push_of_some _ q
  obtain ⟨its, r, ht, hz⟩ := I5.tuple hx
  have hlen := r.length
  show wpAny (model X.prog X.w) X.A (subscriptTail e (.Slice none none (some (.UnaryOp .USub (.Constant (.int 1) k p1) p2)) p3) (.ref a) (.ref s4.heap.objs.size)) (EP X pins σ Q) X.xe { s4 with heap := s4.heap.push { cls := .type "slice", data := .fields #[vl, vu, vs] } }
  refine tail_any (ops := [.ref a, .ref s4.heap.objs.size]) ht.typeIs (PyProof.Rows.slot_tuple_getitem.lookup) ?_ (by with_unfolding_all rfl)
  refine getItem_tuple_rev ht (Heap.IsSliceOf.new _ vl vu vs) pl pu ps ?_ (by rw [List.size_toArray]; omega)
  refine ⟨.ref _, _, I5.laid (t' := s4.toks) (o := .tup xs.reverse) (fun b ob q => Heap.get?_push_of_some _ q) (Nat.le_refl _) ?_, rfl, q _ (I5.hok.fresh (Nat.le_refl _))⟩
  exact ⟨by rw [List.length_reverse]; exact hz, _, r.reverse, IsTup.new _ _⟩

/-! ### sum(tuple) -/
section
variable {prog : Program} {w : World} {A : Around} {E : Value → Shared → Prop} {s : Shared} {l : Addr} {its : List Value} {ns : List Int} {Q : Value → Shared → Prop}
theorem sum_rawT (hh : A.handled = none) (hl : s.heap.IsTuple l its.toArray) (hi : IntsAre its ns)
    (h : ∀ h' tk t', (∀ b o, s.heap.get? b = some o → h'.get? b = some o) → Q (.int ns.sum t') { s with heap := h', toks := tk }) : wpAny (model prog w) A (call (.builtin "sum") [.ref l]) Q E s := by
  obtain ⟨xs, e⟩ := hi.allInts.items
  have hn : numsOf (intItems xs).toList = ns := by rw [← e]; exact hi.numsOf
  rw [nums_intItems] at hn
  rw [e] at hl
  have hlt : l < s.heap.objs.size := by obtain ⟨_, q, _⟩ := hl; exact Heap.lt_size q
  refine call_sum_walkG (wpAny_pyIter_tuple hl ?_)
  refine ⟨s.heap.objs.size, [s.heap.objs.size, l], [s.heap.objs.size], (intItems xs).size, _, _, numAt xs, rfl, Walks.tuple (A := A.in1) hh _ l (Nat.ne_of_lt hlt) (intItems xs), ⟨⟨_, Heap.get?_push_size _ rfl, rfl, rfl⟩, hl.push _⟩, fun b hb => ?_, (fun _ _ => intItems_at), fun h' tk t' hk => ?_⟩
  · show b < (s.heap.push _).objs.size
    rw [Heap.size_push]
    rcases List.mem_cons.mp hb with rfl | hb
    · exact Nat.lt_succ_self _
    · rcases List.mem_cons.mp hb with rfl | hb
      · exact Nat.lt_succ_of_lt hlt
      · cases hb
  · have q := h h' tk t' fun b o e => hk b o (fun hm => by
      have z : b = s.heap.objs.size := by simpa using hm
      rw [z] at e
      exact Nat.lt_irrefl _ (Heap.lt_size e)) (Heap.get?_push_of_some _ e)
    have e2 : preSum (numAt xs) (intItems xs).size = ns.sum := by
      rw [preSum_eq, List.take_of_length_le (by simp [intItems]), hn]
    rw [e2]
    exact q
end
def rSumT (K : PySem.W.Frag) : List V → Hp → VK → Prop := fun vs H Q => ∃ (a : Addr) (ns : List Int), vs = [V.ref a] ∧ SqT K H a (ns.map V.int) ∧ Q (.int ns.sum) H
theorem cr_sumT {X : Cx} (hc : X.calm = true) : CallR X (.builtin "sum") (rSumT X.K) := by
  intro pins s σ H vs us Q I r h
  obtain ⟨a, ns, rfl, hs, q⟩ := h
  obtain ⟨its, rv, hl, _⟩ := I.tuple hs
  rw [Vals.ref1 r]
  exact sum_rawT (I.ok.hd hc) (show s.heap.IsTuple a its.toArray from hl) rv.ints fun h' tk t' hk => ⟨.int _, H, I.kept hk, ⟨_, rfl⟩, q⟩

/-! ### len(o), o of a class with its own __len__ -/
def rLenO (C : Addr) (sp : Sp) (E : XK) : List V → Hp → VK → Prop := fun vs H Q => ∃ (a dx : Addr) (fs : List (Str × V)), vs = [.ref a] ∧ H a = some (.ins C dx fs) ∧ sp [.ref a] H (fun v H' => ∃ n, v = .int n ∧ 0 ≤ n ∧ n < 2 ^ 63 ∧ Q (.int n) H') E
theorem call_lenO {X : Cx} {CX : CXT} {k : Nat} {C f : Addr} {fd : FuncData} {ps : List Str} {sp : Sp} {E : XK} (c : Meth X.K C "__len__" f) (F : FnOk X.prog X.w X.K X.mg X.base CX k f fd ps sp) (hr : Room (k + 1) X.A) (hb : Binds X.K fd ps []) (hx : Passes CX X E) : CallR X (.builtin "len") (rLenO C sp E) := by
  intro pins s σ H vs us Q I r h
  obtain ⟨a, dx, fs, rfl, ha, q⟩ := h
  rw [Vals.ref1 r]
  obtain ⟨mA, O, _⟩ := ins_get I.hok ha
  obtain ⟨od, IA, _⟩ := O.look
  have X1 := I.kIn
  refine Calls.call_function_entry kind_len plain_len entry_len (args_len1 _) ?_
  unfold Builtin.«len»
  refine wpAny_bind (m := oneArg "len" _) (wpAny_pure ?_)
  have e0 : Env0 X.prog X.w X.K X.mg X.base X.A.in1 X.stack s H := by
    obtain ⟨a1, a2, a3, a4, a5, a6, a7, a8⟩ := I.env0
    exact ⟨a1, a2, a3, a4, a5, a6, a7, a8⟩
  refine wpAny_bind (m := callSpecial? (.ref a) (PySem.Str.ofString "__len__")) (PySem.W.special_fn X1 (C := C) IA c.at_ (beq_iff_eq.mp c.fn) ?_)
  have hl : [Value.ref a].length = ps.length := F.len _ _ _ _ q
  have hb' := hb s [.ref a] X1 (by rw [List.append_nil]; exact hl)
  rw [List.append_nil] at hb'
  · refine wpAny_call (codeAny_mono (F.run X.A.in1 X.stack s H ⟨[.ref a], []⟩ [.ref a] [.ref a] _ E hr.in1 e0 hb' (.cons rfl .nil) q) fun r s' hq => ?_)
    cases r with
    | error e => exact hx pins σ H s e s' I hq
    | ok fl =>
      cases fl with
      | ret u =>
        obtain ⟨v, H', J, rv, n, rfl, h0, h1, q2⟩ := I.after hq
        obtain ⟨t, rfl⟩ := rv
        refine wpAny_bind (wpAny_holding (wpAny_pure ?_))
        refine wpAny_bind (wpAny_letGo ?_)
        show wpAny _ _ (if n < 0 then _ else _) _ _ _
        rw [if_neg (by omega)]
        show wpAny _ _ (if n ≥ 2 ^ 63 then _ else _) _ _ _
        rw [if_neg (by omega)]
        exact wpAny_bind (wpAny_mkInt (wpAny_pure ⟨_, rfl, .int n, H', J.tok _, ⟨_, rfl⟩, q2⟩))
      | next => exact False.elim hq
      | brk => exact False.elim hq
      | cont => exact False.elim hq
end Mr
end
section
set_option Elab.async false
set_option linter.all false
set_option maxRecDepth 100000
set_option maxHeartbeats 4000000
/-! the text by places, what the top leaves, calls by what is proved of a def -/
namespace Mw
open PySem PySem.Spec PyProof.Rows L2 Mir Mr
abbrev pgm := PySem.Challenge.pw_mirrorpress_k55_whole_read_by_walking
def top (i : Nat) : Stmt := pgm.main.body.getD i (.Pass ⟨0, 0, 0, 0⟩)
abbrev Frag := PySem.W.Frag
abbrev cCop (K : Frag) : Addr := He.ga K "Copies"
abbrev cWal (K : Frag) : Addr := He.ga K "Walker"
abbrev cPre (K : Frag) : Addr := He.ga K "Presser"
abbrev cGon (K : Frag) : Addr := He.ga K "Gone"
/-- what the top leaves -/
structure Tp (K : Frag) (mg : Str → Option Value) : Prop where
  len : mg "len" = none
  range : mg "range" = none
  enumerate : mg "enumerate" = none
  zip : mg "zip" = none
  isinstance : mg "isinstance" = none
  min : mg "min" = none
  max : mg "max" = none
  sum : mg "sum" = none
  int : mg "int" = none
  tuple : mg "tuple" = none
  bool : mg "bool" = none
  str : mg "str" = none
  cText : ∃ t, mg "MOST_TEXT" = some (.int 20000 t)
  cPresses : ∃ t, mg "MOST_PRESSES" = some (.int 200 t)
  cWindow : ∃ t, mg "MOST_WINDOW" = some (.int 1000 t)
  cPiece : ∃ t, mg "MOST_PIECE" = some (.int 200 t)
  cLetters : ∃ t, mg "LETTERS" = some (.str "abcdefghijklmnopqrstuvwxyz" t)
  clCop : Cls K (cCop K)
  clWal : Cls K (cWal K)
  clPre : Cls K (cPre K)
  naCop1 : NoAttr K (cCop K) "copy_presses"
  naCop2 : NoAttr K (cCop K) "copy_lengths"
  naCop3 : NoAttr K (cCop K) "copy_shared"
  naWal1 : NoAttr K (cWal K) "own_presser"
  naWal2 : NoAttr K (cWal K) "own_stand"
  naPre1 : NoAttr K (cPre K) "row_now"
  naPre2 : NoAttr K (cPre K) "rows_put"
  naPre3 : NoAttr K (cPre K) "own_walkers"
section
variable (P : Program) (w : World) (K : Frag) (mg : Str → Option Value) (base : Heap) (CX : CXT) (lv : Nat)
/-- a def of the top that keeps a promise, every parameter written -/
def Has (x : Str) (ps : List Str) (sp : Sp) : Prop := ∃ f fd, FnOk P w K mg base CX lv f fd ps sp ∧ mg x = some (.ref f) ∧ PySem.W.keepIn K (.ref f) = true ∧ Binds K fd ps []
/-- a method -/
def HasM (C m : Str) (ps : List Str) (sp : Sp) : Prop := Cls K (He.ga K C) ∧ ∃ f fd, FnOk P w K mg base CX lv f fd ps sp ∧ Meth K (He.ga K C) m f ∧ Binds K fd ps []
/-- a class, made by its __init__ -/
def HasC (C : Str) (ps : List Str) (sp : Sp) : Prop := ∃ f fd, FnOk P w K mg base CX lv f fd ps sp ∧ Mk K (He.ga K C) f ∧ mg C = some (.ref (He.ga K C)) ∧ Binds K fd ps []
/-- is_whole(thing, most=e) -/
def HasW (sp : Sp) : Prop := ∃ f fd, FnOk P w K mg base CX0 lv f fd ["thing", "least", "most"] sp ∧ mg "is_whole" = some (.ref f) ∧ PySem.W.keepIn K (.ref f) = true ∧
  ∃ d t, d = Value.int 0 t ∧ KBn K fd ["thing", "least", "most"] 1 ["most"] (fun us ws => us ++ (d :: ws)) (fun vs zs => vs ++ (.int 0 :: zs))
end
section
variable {X : Cx} {CX : CXT} {lv k : Nat} {x m C : Str} {ps : List Str} {sp : Sp} {p pos apos : Pos} {e o : Expr} {es : List Expr} {ta : TE} {t : TA}
theorem pcall (h : Has X.prog X.w X.K X.mg X.base CX0 lv x ps sp) (hr : Room k X.A) (hg : Gl X x) (ha : PA X (e :: es) t) (hl : lv ≤ k := by decide) (hdb : (x == ("__debug__" : Str)) = false := by decide)
    (he : starEach (e :: es) X.env = (false, eval e X.env) :: starEach es X.env := by rfl) (hpl : (backTo pos (starEach es X.env)).any (·.1) = false := by rfl) : PE X (.Call (.Name x p) (e :: es) [] pos) (tCall sp [] E0 t) := by
  obtain ⟨f, fd, F, hm, hk, hb⟩ := h
  exact pe_call F (hr.mono hl) hg hm hk hb .nil pass0 ha hdb he hpl
theorem pmeth {pl : Sem Bool} (h : HasM X.prog X.w X.K X.mg X.base CX0 lv C m ps sp) (he : PE X o ta) (hr : Room k X.A) (ha : PA X (e :: es) t) (hl : lv ≤ k := by decide)
    (hst : starEach (e :: es) X.env = (false, eval e X.env) :: starEach es X.env := by rfl) (hpl : (backTo pos (starEach es X.env)).any (·.1) = false := by rfl)
    (ht : eval (.Call (.Attribute o m apos) (e :: es) [] pos) X.env = (eval o X.env >>= fun ov => standAt apos.atName >>= fun _ => holding [ov] (getMethod ov m pl) >>= fun q => callWith pos q.1 q.2 (backTo pos (starEach (e :: es) X.env)) (backToKw pos (keywordEach [] X.env))) := by rfl) : PE X (.Call (.Attribute o m apos) (e :: es) [] pos) (tMeth (He.ga X.K C) m sp [] E0 ta t) := by
  obtain ⟨c, f, fd, F, hm, hb⟩ := h
  exact pe_meth (pl := pl) he c hm F (hr.mono hl) hb .nil pass0 ha hst hpl ht
theorem pmeth0 {pl : Sem Bool} (h : HasM X.prog X.w X.K X.mg X.base CX0 lv C m ps sp) (he : PE X o ta) (hr : Room k X.A) (hl : lv ≤ k := by decide)
    (ht : eval (.Call (.Attribute o m apos) [] [] pos) X.env = (eval o X.env >>= fun ov => standAt apos.atName >>= fun _ => holding [ov] (getMethod ov m pl) >>= fun q => callWith pos q.1 q.2 (backTo pos (starEach [] X.env)) (backToKw pos (keywordEach [] X.env))) := by rfl) : PE X (.Call (.Attribute o m apos) [] [] pos) (tMeth (He.ga X.K C) m sp [] E0 ta tNil) := by
  obtain ⟨c, f, fd, F, hm, hb⟩ := h
  exact pe_meth0 (pl := pl) he c hm F (hr.mono hl) hb .nil pass0 ht
theorem pmake (h : HasC X.prog X.w X.K X.mg X.base CX0 lv x ps sp) (hr : Room k X.A) (hg : Gl X x) (ha : PA X (e :: es) t) (hl : lv + 1 ≤ k := by decide) (hdb : (x == ("__debug__" : Str)) = false := by decide)
    (he : starEach (e :: es) X.env = (false, eval e X.env) :: starEach es X.env := by rfl) (hpl : (backTo pos (starEach es X.env)).any (·.1) = false := by rfl) : PE X (.Call (.Name x p) (e :: es) [] pos) (tMake (He.ga X.K x) sp [] E0 t) := by
  obtain ⟨f, fd, F, M, hm, hb⟩ := h
  exact pe_make M F (hr.mono hl) hg hm hb .nil pass0 ha hdb he hpl
theorem pwhole {kp : Pos} {e2 : Expr} {tk : TA} (h : HasW X.prog X.w X.K X.mg X.base lv sp) (hr : Room k X.A) (hg : Gl X "is_whole") (ha : PA X (e :: es) t) (hkw : PK X [⟨some "most", e2, kp⟩] tk) (hl : lv ≤ k := by decide)
    (hall : (backToKw pos (keywordEach [⟨some "most", e2, kp⟩] X.env)).all (·.1.isSome) = true := by rfl) (hks : (backToKw pos (keywordEach [⟨some "most", e2, kp⟩] X.env)).filterMap (·.1) = (["most"] : List Str) := by rfl)
    (he : starEach (e :: es) X.env = (false, eval e X.env) :: starEach es X.env := by rfl)
    (hpl : ((backTo pos (starEach (e :: es) X.env)).any (·.1) || (backToKw pos (keywordEach [⟨some "most", e2, kp⟩] X.env)).any (·.1.isNone)) = false := by rfl) :
    PE X (.Call (.Name "is_whole" p) (e :: es) [⟨some "most", e2, kp⟩] pos) (tCallN 1 1 sp (fun vs zs => vs ++ (.int 0 :: zs)) E0 t tk) := by
  obtain ⟨f, fd, F, hm, hk, d, td, rfl, hb⟩ := h
  exact pe_callN F (hr.mono hl) hg hm hk hb pass0 ha hkw hall hks (by decide) he hpl
theorem pglobI {i : Int} (hg : Gl X x) (h : ∃ t, X.mg x = some (.int i t)) (hd : (x == ("__debug__" : Str)) = false := by decide) : PE X (.Name x pos) (tC (.int i)) := by
  obtain ⟨t, h⟩ := h
  exact pe_glob hg h ⟨_, rfl⟩ hd
theorem pglobS {z : Str} (hg : Gl X x) (h : ∃ t, X.mg x = some (.str z t)) (hd : (x == ("__debug__" : Str)) = false := by decide) : PE X (.Name x pos) (tC (.str z)) := by
  obtain ⟨t, h⟩ := h
  exact pe_glob hg h ⟨_, rfl⟩ hd
end
/-! ### texts -/
def tx (w : Wd) : Str := ⟨w.toArray⟩
def Good (w : Wd) : Prop := ∀ c ∈ w, 97 ≤ c ∧ c ≤ 122
theorem Good.app {a b : Wd} (ha : Good a) (hb : Good b) : Good (a ++ b) := fun c h => (List.mem_append.mp h).elim (ha c) (hb c)
theorem Good.sub {a b : Wd} (ha : Good a) (h : ∀ c ∈ b, c ∈ a) : Good b := fun c hc => ha c (h c hc)
theorem Good.take {a : Wd} (ha : Good a) (n : Nat) : Good (a.take n) := ha.sub fun _ h => List.mem_of_mem_take h
theorem Good.drop {a : Wd} (ha : Good a) (n : Nat) : Good (a.drop n) := ha.sub fun _ h => List.mem_of_mem_drop h
theorem tx_list (w : Wd) : (tx w).cps.toList = w := rfl
theorem tx_len (w : Wd) : (tx w).length = w.length := by show w.toArray.size = w.length; simp
theorem tx_inj {a b : Wd} (h : tx a = tx b) : a = b := by
  have := congrArg (fun z : Str => z.cps.toList) h
  simpa [tx] using this
theorem tx_app (a b : Wd) : tx a ++ tx b = tx (a ++ b) := by
  show (⟨a.toArray ++ b.toArray⟩ : Str) = ⟨(a ++ b).toArray⟩
  simp
theorem tx_nil : tx [] = ("" : Str) := by decide +kernel
theorem tx_rev (a : Wd) : revS (tx a) = tx a.reverse := by
  show (⟨a.toArray.toList.reverse.toArray⟩ : Str) = ⟨a.reverse.toArray⟩
  simp
theorem letters_list : (("abcdefghijklmnopqrstuvwxyz" : Str)).cps.toList = List.range' 97 26 := by decide +kernel
theorem in_letters (c : Nat) : c ∈ (("abcdefghijklmnopqrstuvwxyz" : Str)).cps.toList ↔ 97 ≤ c ∧ c ≤ 122 := by
  rw [letters_list, List.mem_range'_1]
  omega
/-! ### readings' helpers -/
theorem ifT {b : Bool} {A B : Prop} (hb : b = true) (h : A) : if b = true then A else B := by rw [if_pos hb]; exact h
theorem ifF {b : Bool} {A B : Prop} (hb : b = false) (h : B) : if b = true then A else B := by rw [hb]; exact iteF h
theorem pair_go {K : Frag} {n i j : Nat} {T : Addr} {x y : V} {σ : L2.St} {H : Hp} {Q : L2.St → Hp → Prop} (h : Q ((σ.set i (some x)).set j (some y)) (upd H T (.tup [x, y]))) (hn : 2 = n := by rfl) : gTup K n (gCons (gName i) (gCons (gName j) gNil)) (.ref T) σ (upd H T (.tup [x, y])) Q :=
  ⟨T, _, rfl, SqT.of upd_same, hn, x, _, rfl, y, _, rfl, rfl, h⟩
theorem str_turn {p : Wd} {i : Nat} {y : V} (h : ((tx p).cps[i]?).map (fun c => V.str ⟨#[c]⟩) = some y) : ∃ h' : i < p.length, y = .str (tx [p[i]]) := by
  by_cases hi : i < p.length
  · have e : (tx p).cps[i]? = some p[i] := by simp [tx, hi]
    rw [e] at h
    exact ⟨hi, (Option.some.inj h).symm⟩
  · have e : (tx p).cps[i]? = none := by simp [tx]; omega
    rw [e] at h
    cases h
theorem tx_size (p : Wd) : (tx p).cps.size = p.length := by simp [tx]
/-! ### promises -/
def RetT (xs : List V) (H : Hp) (Q : VK) : Prop := ∀ p H2, H p = none → Evl.Ex H H2 → H2 p = some (.tup xs) → Q (.ref p) H2
abbrev RetV := @Evl.RetV
abbrev RetL := @Evl.RetL
structure PrOk (p : Wd) : Prop where
  good : Good p
  len : p.length ≤ 200
theorem PrOk.take {p : Wd} (h : PrOk p) (n : Nat) : PrOk (p.take n) := ⟨h.good.take n, by have := h.len; rw [List.length_take]; omega⟩
theorem PrOk.drop {p : Wd} (h : PrOk p) (n : Nat) : PrOk (p.drop n) := ⟨h.good.drop n, by have := h.len; rw [List.length_drop]; omega⟩
end Mw
end
section
set_option Elab.async false
set_option linter.all false
set_option maxRecDepth 100000
set_option maxHeartbeats 4000000
/-! texts and lists: finds, cuts, joins, what the lists hold -/
namespace Mw
open PySem PySem.Spec PyProof.Rows L2 Mir Mr
theorem at_tx (w z : Wd) (hi i : Nat) : StrLaws.At (tx w) (tx z) hi i ↔ i + z.length ≤ hi ∧ (w.drop i).take z.length = z := by
  unfold StrLaws.At
  rw [StrLaws.subAt_eq, tx_len, tx_list, tx_list, beq_iff_eq]
theorem at_one (p : Wd) (c m i : Nat) (hm : m ≤ p.length) : StrLaws.At (tx p) (tx [c]) m i ↔ (p.take m)[i]? = some c := by
  rw [at_tx]
  constructor
  · rintro ⟨h1, h2⟩
    have h1' : i < m := h1
    have hi : i < p.length := by omega
    rw [List.getElem?_take_of_lt h1', List.getElem?_eq_getElem hi]
    rw [List.drop_eq_getElem_cons hi] at h2
    have h3 : [p[i]] = [c] := h2
    injection h3 with h4 _
    rw [h4]
  · intro h
    have h1 := (List.getElem?_eq_some_iff.mp h).1
    rw [List.length_take] at h1
    have h1' : i < m := by omega
    have hi : i < p.length := by omega
    rw [List.getElem?_take_of_lt h1', List.getElem?_eq_getElem hi] at h
    refine ⟨h1', ?_⟩
    rw [List.drop_eq_getElem_cons hi]
    show [p[i]] = [c]
    rw [Option.some.inj h]
theorem lastIx_at (v : Wd) (x a : Nat) (h : v[a]? = some x) (hn : ∀ k, a < k → v[k]? ≠ some x) : lastIx v x = some a := by
  cases e : lastIx v x with
  | none => exact absurd (List.mem_of_getElem? h) ((lastIx_none v x).mp e)
  | some j =>
    obtain ⟨h1, h2, h3⟩ := lastIx_some v x j e
    have ej : v[j]? = some x := by
      have e3 : (v.take j ++ x :: v.drop (j + 1))[j]? = some x := by
        rw [List.getElem?_append_right (by simp; omega)]
        have : j - (v.take j).length = 0 := by simp; omega
        rw [this]; rfl
      rw [h2]; exact e3
    rcases Nat.lt_trichotomy a j with q | q | q
    · exact absurd ej (hn j q)
    · rw [q]
    · refine absurd (List.mem_of_getElem? (i := a - (j + 1)) ?_) h3
      rw [List.getElem?_drop]
      have : j + 1 + (a - (j + 1)) = a := by omega
      rw [this]; exact h
theorem last_one (p : Wd) (c m : Nat) (hm : m ≤ p.length) : Builtin.Str.lastOccurrence (tx p) (tx [c]) 0 m = lastIx (p.take m) c := by
  rw [StrLaws.last_eq]
  have key := StrLaws.last_run (tx p) (tx [c]) m (List.range' 0 (m + 1 - 0)) [] none (fun _ h => nomatch h) (fun _ h => nomatch h) (by simpa using List.pairwise_lt_range' (s := 0) (n := m + 1 - 0))
  have mem : ∀ i, StrLaws.At (tx p) (tx [c]) m i → i ∈ [] ++ List.range' 0 (m + 1 - 0) := fun i hi => by have := hi.1; simp [List.mem_range'] <;> omega
  cases hr : (forIn (List.range' 0 (m + 1 - 0)) none (StrLaws.lastBody (tx p) (tx [c]) m)).run with
  | none =>
    rw [hr] at key
    refine Eq.symm ((lastIx_none _ _).mpr fun hc => ?_)
    obtain ⟨i, hi⟩ := List.mem_iff_getElem?.mp hc
    have hA := (at_one p c m i hm).mpr hi
    exact key i (mem i hA) hA
  | some a =>
    rw [hr] at key
    refine Eq.symm (lastIx_at _ _ _ ((at_one p c m a hm).mp key.1) fun k hk hq => ?_)
    have hA := (at_one p c m k hm).mpr hq
    exact key.2 k (mem k hA) hk hA
def oI : Option Nat → Int
  | some j => (j : Int)
  | none => -1
theorem rfind_one (p : Wd) (c : Nat) : Txt.rfind (tx p) (tx [c]) = oI (lastIx p c) := by
  have e := last_one p c p.length (Nat.le_refl _)
  rw [List.take_length] at e
  show (match Builtin.Str.lastOccurrence (tx p) (tx [c]) 0 (tx p).length with | some i => (i : Int) | none => -1) = _
  rw [tx_len, e]
  cases lastIx p c <;> rfl
theorem rfind_in (p : Wd) (c m : Nat) (hm : m ≤ p.length) : Txt.rfindIn (tx p) (tx [c]) 0 (m : Int) = oI (lastIx (p.take m) c) := by
  unfold Txt.rfindIn
  have e2 : toIndexW (tx p).length (m : Int) = m := by
    unfold toIndexW
    rw [tx_len, if_neg (by omega)]
    omega
  rw [e2]
  have e3 := last_one p c m hm
  show (match Builtin.Str.lastOccurrence (tx p) (tx [c]) 0 m with | some k => (k : Int) | none => -1) = _
  rw [e3]
  cases lastIx (p.take m) c <;> rfl
theorem find_no {w W : Wd} (h : ∀ j, ¬ Occ w W j) : Txt.find (tx W) (tx w) = -1 := by
  unfold Txt.find
  rcases StrLaws.occ_head (tx W) (tx w) 1 (Nat.le_refl _) with ⟨e, _⟩ | ⟨i, r, e, hA, _⟩
  · rw [e]
  · rw [tx_len] at hA
    have hA' := (at_tx W w W.length i).mp hA
    exact absurd ((occ_iff w W i).mpr ⟨by have := hA'.1; omega, hA'.2⟩) (h i)
theorem find_at {w W : Wd} {A : Nat} (h : Occ w W A) (hu : ∀ j, Occ w W j → j = A) : Txt.find (tx W) (tx w) = (A : Int) := by
  unfold Txt.find
  rcases StrLaws.occ_head (tx W) (tx w) 1 (Nat.le_refl _) with ⟨_, hn⟩ | ⟨i, r, e, hA, _⟩
  · rw [tx_len] at hn
    exact absurd ((at_tx W w W.length A).mpr ⟨h.le, ((occ_iff w W A).mp h).2⟩) (hn A)
  · rw [e]
    rw [tx_len] at hA
    have hA' := (at_tx W w W.length i).mp hA
    have := hu i ((occ_iff w W i).mpr ⟨by have := hA'.1; omega, hA'.2⟩)
    show ((i : Nat) : Int) = _
    rw [this]
theorem joinL_nil : ∀ ws : List (List Nat), TL.joinL [] ws = ws.flatten
  | [] => rfl
  | [p] => by simp [TL.joinL]
  | p :: q :: r => by
    show p ++ ([] ++ TL.joinL [] (q :: r)) = _
    rw [joinL_nil (q :: r)]
    simp
theorem join_tx (ws : List Wd) : Txt.join ("" : Str) (ws.map tx) = tx ws.flatten := by
  have h : Txt.join (tx []) (ws.map tx) = tx (TL.joinL [] ws) := SX.join_S [] ws
  rw [tx_nil, joinL_nil] at h
  exact h
/-! ### cuts -/
theorem cutS_lo (w : Wd) (a : Nat) (h : a ≤ w.length) : cutS (tx w) (some (a : Int)) none = tx (w.drop a) := by
  unfold cutS tx
  show (⟨((w.drop (HT.sIx w.toArray.size 0 (some (a : Int)))).take (w.toArray.size - HT.sIx w.toArray.size 0 (some (a : Int)))).toArray⟩ : Str) = _
  rw [HT.sIx_nat, List.size_toArray, Nat.min_eq_left h, List.take_of_length_le (by simp)]
theorem cutS_hi (w : Wd) (b : Nat) : cutS (tx w) none (some (b : Int)) = tx (w.take b) := by
  unfold cutS tx
  show (⟨((w.drop 0).take (HT.sIx w.toArray.size w.toArray.size (some (b : Int)) - 0)).toArray⟩ : Str) = _
  rw [HT.sIx_nat, List.size_toArray, List.drop_zero, Nat.sub_zero]
  congr 2
  rw [List.take_eq_take_iff]
  omega
theorem cutS_mid (w : Wd) (a b : Nat) (h : a ≤ w.length) : cutS (tx w) (some (a : Int)) (some (b : Int)) = tx ((w.drop a).take (b - a)) := by
  unfold cutS tx
  show (⟨((w.drop (HT.sIx w.toArray.size 0 (some (a : Int)))).take (HT.sIx w.toArray.size w.toArray.size (some (b : Int)) - HT.sIx w.toArray.size 0 (some (a : Int)))).toArray⟩ : Str) = _
  rw [HT.sIx_nat, HT.sIx_nat, List.size_toArray, Nat.min_eq_left h]
  congr 2
  rw [List.take_eq_take_iff, List.length_drop]
  omega
theorem cutV_lo (xs : List V) (a : Nat) (h : a ≤ xs.length) : cutV xs (some (a : Int)) none = xs.drop a := by
  unfold cutV
  rw [HT.sIx_nat, HT.sIx_none, Nat.min_eq_left h, List.take_of_length_le (by simp)]
theorem cutV_hi (xs : List V) (b : Nat) : cutV xs none (some (b : Int)) = xs.take b := by
  unfold cutV
  rw [HT.sIx_nat, HT.sIx_none, List.drop_zero, Nat.sub_zero, List.take_eq_take_iff]
  omega
theorem cutV_last (xs : List V) : cutV xs none (some (-1)) = xs.dropLast := by
  unfold cutV
  show (xs.drop 0).take ((if (-1 : Int) < 0 then ((-1 : Int) + (xs.length : Int)).toNat else min ((-1 : Int)).toNat xs.length) - 0) = _
  rw [if_pos (by decide), List.drop_zero, Nat.sub_zero, List.dropLast_eq_take]
  congr 1
  omega
theorem slA_go {K : Frag} {a : Addr} {xs : List V} {lo hi : Option Int} {H : Hp} {Q : VK} (h : SqT K H a xs) (hh : HT.sIx xs.length xs.length hi ≤ xs.length) (k : ∀ q H', Evl.Ex H H' → SqT K H' q (cutV xs lo hi) → Q (.ref q) H') : rSlA K (.ref a) lo hi H Q := by
  refine ⟨a, xs, rfl, h, fun e => ?_, fun _ p hp => ?_⟩
  · refine k a H (Evl.Ex.refl H) ?_
    have : cutV xs lo hi = xs := by
      unfold cutV
      rw [e.1, e.2, List.drop_zero, Nat.sub_zero, List.take_length]
    rw [this]
    exact h
  · exact k p _ (Evl.Ex.new hp) (SqT.of upd_same)
theorem atI_neg1 {xs ys : List V} {v : V} (h : xs = ys ++ [v]) : atI xs (-1) = some v := by rw [h]; exact atI_last ys v
/-! ### the lists that the defs make -/
def oV : Option Nat → V
  | some j => .int (j : Int)
  | none => .non
def iV (g : List Nat) : List V := g.map fun n : Nat => V.int (n : Int)
theorem iV_len (g : List Nat) : (iV g).length = g.length := by simp [iV]
theorem iV_get (g : List Nat) (i : Nat) : (iV g)[i]? = (g[i]?).map fun n : Nat => V.int (n : Int) := by simp [iV]
theorem iV_drop (g : List Nat) (n : Nat) : (iV g).drop n = iV (g.drop n) := by simp [iV]
theorem iV_take (g : List Nat) (n : Nat) : (iV g).take n = iV (g.take n) := by simp [iV]
theorem iV_ints (g : List Nat) : iV g = (g.map fun n : Nat => (n : Int)).map V.int := by simp [iV]
theorem sum_ints : ∀ g : List Nat, (g.map fun n : Nat => (n : Int)).sum = (g.sum : Nat)
  | [] => rfl
  | x :: g => by
    rw [List.map_cons, List.sum_cons, List.sum_cons, sum_ints g]
    omega
def lens (p : Wd) : List Nat := (List.range (p.length + 1)).map fun i => L (p.take i)
theorem lens_len (p : Wd) : (lens p).length = p.length + 1 := by simp [lens]
theorem lens_get (p : Wd) (i : Nat) (h : i ≤ p.length) : (lens p)[i]? = some (L (p.take i)) := by
  have h' : i < p.length + 1 := by omega
  simp [lens, h']
theorem lens_snoc (p : Wd) : lens p = ((List.range p.length).map fun i => L (p.take i)) ++ [L p] := by
  unfold lens
  rw [List.range_succ, List.map_append, List.map_singleton, List.take_length]
theorem lensV_get (p : Wd) (i : Nat) (h : i ≤ p.length) : (iV (lens p))[i]? = some (.int (L (p.take i) : Nat)) := by
  rw [iV_get, lens_get p i h]; rfl
theorem lensV_last (p : Wd) : atI (iV (lens p)) (-1) = some (.int (L p : Nat)) := by
  refine atI_neg1 (ys := iV ((List.range p.length).map fun i => L (p.take i))) ?_
  rw [lens_snoc]
  simp [iV]
/-- a word of letters one longer -/
theorem take_succ' {p : Wd} {i : Nat} (h : i < p.length) : p.take (i + 1) = p.take i ++ [p[i]] := by rw [List.take_succ_eq_append_getElem h]
def lastsV (p : Wd) (n : Nat) : List V := (List.range n).map fun i => oV (lastIx (p.take i) (p.getD i 0))
theorem lastsV_succ (p : Wd) (i : Nat) (h : i < p.length) : lastsV p (i + 1) = lastsV p i ++ [oV (lastIx (p.take i) p[i])] := by
  unfold lastsV
  rw [List.range_succ, List.map_append, List.map_singleton]
  simp [List.getD, h]
theorem lastsV_len (p : Wd) (n : Nat) : (lastsV p n).length = n := by simp [lastsV]
theorem lastsV_get (p : Wd) (n i : Nat) (h : i < n) (hp : i < p.length) : (lastsV p n)[i]? = some (oV (lastIx (p.take i) p[i])) := by
  simp [lastsV, h, List.getD, hp]
theorem putK_len {κ : Type} [DecidableEq κ] (kvs : List (κ × V)) (k : κ) (v : V) : (putK kvs k v).length ≤ kvs.length + 1 := by
  unfold putK
  split
  · simp
  · simp
/-- what the copies share -/
def shrV (p : Wd) (n : Nat) : List V := (List.range n).map fun i => oV ((lastIx (p.take i) (p.getD i 0)).map fun j => L (p.take j))
theorem shrV_succ (p : Wd) (i : Nat) (h : i < p.length) : shrV p (i + 1) = shrV p i ++ [oV ((lastIx (p.take i) p[i]).map fun j => L (p.take j))] := by
  unfold shrV
  rw [List.range_succ, List.map_append, List.map_singleton]
  simp [List.getD, h]
theorem shrV_len (p : Wd) (n : Nat) : (shrV p n).length = n := by simp [shrV]
theorem shrV_get (p : Wd) (n i : Nat) (h : i < n) (hp : i < p.length) : (shrV p n)[i]? = some (oV ((lastIx (p.take i) p[i]).map fun j => L (p.take j))) := by
  simp [shrV, h, List.getD, hp]
end Mw
namespace Mw
open PySem PySem.Spec PyProof.Rows L2 Mir Mr
theorem sq_sum {K : Frag} {H : Hp} {a : Addr} {g : List Nat} {Q : VK} (h : SqT K H a (iV g)) (k : Q (.int (g.sum : Nat)) H) : rSumT K [.ref a] H Q :=
  ⟨a, _, rfl, by rw [← iV_ints]; exact h, by rw [sum_ints]; exact k⟩
theorem sq_sumL {K : Frag} {H : Hp} {a : Addr} {g : List Nat} {Q : VK} (h : SqL K H a (iV g)) (k : Q (.int (g.sum : Nat)) H) : rSum K [.ref a] H Q :=
  ⟨a, _, rfl, by rw [← iV_ints]; exact h, by rw [sum_ints]; exact k⟩
theorem sIx_le' (xs : List V) (o : Option Int) : HT.sIx xs.length xs.length o ≤ xs.length := HT.sIx_le _ _ (Nat.le_refl _) _
/-- a slice of a tuple: at some address, what is known stays -/
def rSlG (K : Frag) : V → Option Int → Option Int → Hp → VK → Prop := fun x lo hi H Q => ∃ a xs, x = .ref a ∧ SqT K H a xs ∧ ∀ q H', Evl.Ex H H' → SqT K H' q (cutV xs lo hi) → Q (.ref q) H'
theorem sl_tupG {X : Cx} : SlR X (rSlG X.K) := fun pins s σ H x v vl vu lo hi sl Q I rx hs pl pu ⟨a, xs, ex, hx, k⟩ => by
  subst ex
  exact sl_tupA pins s σ H _ v vl vu lo hi sl Q I rx hs pl pu (slA_go hx (sIx_le' _ _) k)
def rSumN (K : Frag) : List V → Hp → VK → Prop := fun vs H Q => ∃ (a : Addr) (g : List Nat), vs = [.ref a] ∧ SqT K H a (iV g) ∧ Q (.int (g.sum : Nat)) H
def rSumNL (K : Frag) : List V → Hp → VK → Prop := fun vs H Q => ∃ (a : Addr) (g : List Nat), vs = [.ref a] ∧ SqL K H a (iV g) ∧ Q (.int (g.sum : Nat)) H
theorem cr_sumN {X : Cx} (hc : X.calm = true) : CallR X (.builtin "sum") (rSumN X.K) := fun pins s σ H vs us Q I r ⟨a, g, ev, h, k⟩ => by
  subst ev
  exact cr_sumT hc pins s σ H _ us Q I r (sq_sum h k)
theorem cr_sumNL {X : Cx} (hc : X.calm = true) : CallR X (.builtin "sum") (rSumNL X.K) := fun pins s σ H vs us Q I r ⟨a, g, ev, h, k⟩ => by
  subst ev
  exact cr_sum hc pins s σ H _ us Q I r (sq_sumL h k)
end Mw
end
section
set_option Elab.async false
set_option linter.all false
set_option maxRecDepth 100000
set_option maxHeartbeats 4000000
/-! words: is_whole, is_letter, odd_place, need_presses, need_text, need_letter, need_within -/
namespace Mw
open PySem PySem.Spec PyProof.Rows L2 Mir Mr
def sp_is_whole (K : Frag) : Sp := fun vs H Q _ => ∃ n b : Int, vs = [.int n, .int 0, .int b] ∧ RetV (.bl (decide (0 ≤ n ∧ n ≤ b))) H Q
def sp_is_letter (K : Frag) : Sp := fun vs H Q _ => ∃ c : Nat, vs = [.str (tx [c])] ∧ 97 ≤ c ∧ c ≤ 122 ∧ RetV (.bl true) H Q
def sp_odd_place (K : Frag) : Sp := fun vs H Q _ => ∃ w : Wd, vs = [.str (tx w)] ∧ Good w ∧ RetV .non H Q
def sp_need_presses (K : Frag) : Sp := fun vs H Q _ => ∃ p : Wd, vs = [.str (tx p)] ∧ PrOk p ∧ RetV .non H Q
def sp_need_text (K : Frag) : Sp := fun vs H Q _ => ∃ p : Wd, vs = [.str (tx p)] ∧ Good p ∧ p.length ≤ 20000 ∧ RetV .non H Q
def sp_need_letter (K : Frag) : Sp := fun vs H Q _ => ∃ c : Nat, vs = [.str (tx [c])] ∧ 97 ≤ c ∧ c ≤ 122 ∧ RetV .non H Q
def sp_need_within (K : Frag) : Sp := fun vs H Q _ => ∃ n b : Int, vs = [.int n, .int b] ∧ 0 ≤ n ∧ n ≤ b ∧ RetV .non H Q
def sp_need_cut (K : Frag) : Sp := fun vs H Q _ => ∃ (p : Wd) (n : Nat), vs = [.str (tx p), .int n] ∧ PrOk p ∧ n ≤ p.length ∧ RetV .non H Q
theorem whole_yes {K : Frag} {H : Hp} {Q : VK} {n b : Int} (h0 : 0 ≤ n) (h1 : n ≤ b) (k : ∀ H2, Evl.Ex H H2 → Q (.bl true) H2) : sp_is_whole K ([.int n] ++ (.int 0 :: [.int b])) H Q E0 :=
  ⟨n, b, rfl, fun H2 e => by rw [decide_eq_true (And.intro h0 h1)]; exact k H2 e⟩
section
variable {P : Program} {w : World} {K : Frag} {mg : Str → Option Value} {base : Heap}
theorem sc_is_whole : FnScope ["thing", "least", "most"] ["thing", "least", "most"] (defScope (top 17)) := ⟨rfl, rfl, rfl, by decide +kernel, rfl, by decide +kernel, by decide +kernel⟩
def H_is_whole (P : Program) (w : World) (K : PySem.W.Frag) (mg : Str → Option Value) (base : Heap) : Prop := HasW P w K mg base 1 (sp_is_whole K)
theorem ok_is_whole {f : Addr} {fd : FuncData} (F : FunD K "is_whole" "is_whole" (defArgs (top 17)) (defBody (top 17)) (defScope (top 17)) [] [("least", .int 0), ("most", .non)] f fd) (T : Tp K mg)   : FnOk P w K mg base (CX0) 1 f fd ["thing", "least", "most"] (sp_is_whole K) := by
  refine F.ok sc_is_whole (fun vs H Q E h => by (obtain ⟨_, _, rfl, _⟩ := h; rfl)) (fun cdv A outer s H vs Q E hr h => ?_)
  obtain ⟨n, b, rfl, k⟩ := h
  refine ⟨_, PSs.nox (pss_one (ps_ret (pe_and (pe_callB call_isi (by rfl) T.isinstance (by decide +kernel) (pa_cons (pv 0) (pa_cons (pe_bltn (v := .ty "int") (u := .type "int") (by rfl) T.int (by decide +kernel) rfl) pa_nil))) (pe_and (pe_not (pe_callB call_isi (by rfl) T.isinstance (by decide +kernel) (pa_cons (pv 0) (pa_cons (pe_bltn (v := .ty "bool") (u := .type "bool") (by rfl) T.bool (by decide +kernel) rfl) pa_nil)))) (pe_and (pe_cmpR op_le (pv 1) (pv 0) (nomark _)) (pe_one (pe_or (pe_cmpR op_isN (pv 2) pe_non (nomark _)) (pe_one (pe_cmpR op_le (pv 0) (pv 2) (nomark _)))))))))), ?_⟩
  refine ⟨_, rfl, _, _, _, _, true, rfl, .ty _, .base (.int _), kit_ty (by decide +kernel), true, rfl, iteT ?_⟩
  refine ⟨_, rfl, _, _, _, _, false, rfl, .ty _, .base (.int _), kit_ty (by decide +kernel), false, rfl, true, rfl, iteT ?_⟩
  refine ⟨_, rfl, _, rfl, _, _, rfl, rfl, _, rfl, ite2 (fun h0 => ?_) (fun h0 => ?_)⟩
  · refine ⟨_, rfl, rfl, false, rfl, iteF ⟨_, rfl, _, rfl, _, _, rfl, rfl, ?_⟩⟩
    have e : decide (n ≤ b) = decide (0 ≤ n ∧ n ≤ b) := by
      have := of_decide_eq_true h0
      simp [this]
    show Q (.bl (decide (n ≤ b))) H
    rw [e]
    exact k H (Evl.Ex.refl H)
  · have e : decide (0 ≤ n ∧ n ≤ b) = false := by
      have : ¬ 0 ≤ n := fun q => h0 (decide_eq_true q)
      simp [this]
    rw [e] at k
    exact k H (Evl.Ex.refl H)
theorem sc_is_letter : FnScope ["thing"] ["thing"] (defScope (top 18)) := ⟨rfl, rfl, rfl, by decide +kernel, rfl, by decide +kernel, by decide +kernel⟩
def H_is_letter (P : Program) (w : World) (K : PySem.W.Frag) (mg : Str → Option Value) (base : Heap) : Prop := Has P w K mg base (CX0) 1 "is_letter" ["thing"] (sp_is_letter K)
theorem ok_is_letter {f : Addr} {fd : FuncData} (F : FunD K "is_letter" "is_letter" (defArgs (top 18)) (defBody (top 18)) (defScope (top 18)) [] [] f fd) (T : Tp K mg)   : FnOk P w K mg base (CX0) 1 f fd ["thing"] (sp_is_letter K) := by
  refine F.ok sc_is_letter (fun vs H Q E h => by (obtain ⟨_, rfl, _⟩ := h; rfl)) (fun cdv A outer s H vs Q E hr h => ?_)
  obtain ⟨c, rfl, h1, h2, k⟩ := h
  refine ⟨_, PSs.nox (pss_one (ps_ret (pe_and (pe_callB call_isi (by rfl) T.isinstance (by decide +kernel) (pa_cons (pv 0) (pa_cons (pe_bltn (v := .ty "str") (u := .type "str") (by rfl) T.str (by decide +kernel) rfl) pa_nil))) (pe_and (pe_cmpR op_eq (pe_callB call_len_str (by rfl) T.len PySem.boot_len (pa_cons (pv 0) pa_nil)) pe_int (nomark _)) (pe_one (pe_cmpR op_in_sign (pv 0) (pglobS rfl T.cLetters) rfl)))))), ?_⟩
  refine ⟨_, rfl, _, _, _, _, true, rfl, .ty _, .base (.str _), kit_ty (by decide +kernel), true, rfl, iteT ?_⟩
  refine ⟨_, rfl, _, rfl, Evl.sz_of (by rw [tx_len]; simp), rfl, _, rfl, ifT (by rw [tx_len]; rfl) ?_⟩
  refine ⟨_, rfl, c, _, rfl, rfl, ?_⟩
  rw [decide_eq_true ((in_letters c).mpr ⟨h1, h2⟩)]
  exact k H (Evl.Ex.refl H)
theorem sc_odd_place : FnScope ["text", "place", "sign"] ["text"] (defScope (top 19)) := ⟨rfl, rfl, rfl, by decide +kernel, rfl, by decide +kernel, by decide +kernel⟩
def H_odd_place (P : Program) (w : World) (K : PySem.W.Frag) (mg : Str → Option Value) (base : Heap) : Prop := Has P w K mg base (CX0) 1 "odd_place" ["text"] (sp_odd_place K)
theorem ok_odd_place {f : Addr} {fd : FuncData} (F : FunD K "odd_place" "odd_place" (defArgs (top 19)) (defBody (top 19)) (defScope (top 19)) [] [] f fd) (T : Tp K mg)   : FnOk P w K mg base (CX0) 1 f fd ["text"] (sp_odd_place K) := by
  refine F.ok sc_odd_place (fun vs H Q E h => by (obtain ⟨_, rfl, _⟩ := h; rfl)) (fun cdv A outer s H vs Q E hr h => ?_)
  obtain ⟨p, rfl, hp, k⟩ := h
  refine ⟨_, PSs.nox (pss_cons (ps_for PassesOwn.never rfl (pi_enumS (by rfl) T.enumerate (pa_cons (pv 0) pa_nil)) (pg_tup rfl (pgs_cons (pg_name (i := 1) sc_odd_place.nd rfl (Or.inl rfl)) (pgs_cons (pg_name (i := 2) sc_odd_place.nd rfl (Or.inl rfl)) pgs_nil))) (pss_one (ps_if (pt_cmpR op_notIn_sign (pv 2) (pglobS rfl T.cLetters) rfl) (pss_one (ps_ret (pv 1))) pss_nil))) (pss_one (ps_ret pe_non))), ?_⟩
  refine ⟨_, rfl, _, rfl, for_it walk_enumS (fun _ σ H' => Evl.Ex H H' ∧ ∃ a b, σ = [some (.str (tx p)), a, b]) ⟨Evl.Ex.refl H, _, _, rfl⟩ (fun _ _ _ _ _ => trivial) ?_ ?_⟩
  · rintro i v σ H1 H2 hi ⟨e1, a, b, rfl⟩ ⟨T, x, y, rfl, hT, rfl, hx, hy⟩
    cases hx
    obtain ⟨hi', rfl⟩ := str_turn hy
    refine pair_go ?_
    refine ⟨_, rfl, p[i], _, rfl, rfl, ?_⟩
    refine ⟨_, rfl, ifF (by rw [decide_eq_true ((in_letters p[i]).mpr (hp _ (List.getElem_mem _)))]; rfl) ?_⟩
    exact ⟨e1.trans (Evl.Ex.new hT), _, _, rfl⟩
  · rintro σ H1 ⟨e1, a, b, rfl⟩
    exact k H1 e1
theorem sc_need_presses : FnScope ["thing", "place"] ["thing"] (defScope (top 20)) := ⟨rfl, rfl, rfl, by decide +kernel, rfl, by decide +kernel, by decide +kernel⟩
def H_need_presses (P : Program) (w : World) (K : PySem.W.Frag) (mg : Str → Option Value) (base : Heap) : Prop := Has P w K mg base (CX0) 3 "need_presses" ["thing"] (sp_need_presses K)
theorem ok_need_presses {f : Addr} {fd : FuncData} (F : FunD K "need_presses" "need_presses" (defArgs (top 20)) (defBody (top 20)) (defScope (top 20)) [] [] f fd) (T : Tp K mg)  (h_odd_place : H_odd_place P w K mg base) : FnOk P w K mg base (CX0) 3 f fd ["thing"] (sp_need_presses K) := by
  refine F.ok sc_need_presses (fun vs H Q E h => by (obtain ⟨_, rfl, _⟩ := h; rfl)) (fun cdv A outer s H vs Q E hr h => ?_)
  obtain ⟨p, rfl, hp, k⟩ := h
  refine ⟨_, PSs.nox (pss_cons (ps_if (PW.pt (pw_or (pt_not (pt_val (pe_callB call_isi (by rfl) T.isinstance (by decide +kernel) (pa_cons (pv 0) (pa_cons (pe_bltn (v := .ty "str") (u := .type "str") (by rfl) T.str (by decide +kernel) rfl) pa_nil))))) (pw_or1 (pt_cmpR op_gt (pe_callB call_len_str (by rfl) T.len PySem.boot_len (pa_cons (pv 0) pa_nil)) (pglobI rfl T.cPresses) (nomark _))))) (pss_one ps_never) pss_nil) (pss_cons (ps_set (i := 1) sc_need_presses.nd rfl (Or.inl rfl) (pcall h_odd_place hr rfl (pa_cons (pv 0) pa_nil))) (pss_one (ps_if (pt_cmpR op_notN (pv 1) pe_non (nomark _)) (pss_one ps_never) pss_nil)))), ?_⟩
  refine ⟨_, rfl, _, _, _, _, true, rfl, .ty _, .base (.str _), kit_ty (by decide +kernel), true, rfl, iteF ?_⟩
  refine ⟨_, rfl, _, rfl, Evl.sz_of (by rw [tx_len]; have := hp.len; omega), _, _, rfl, rfl, _, rfl, ifF (decide_eq_false (by rw [tx_len]; have := hp.len; omega)) ?_⟩
  refine ⟨_, rfl, _, rfl, hp.good, fun H2 e2 => ?_⟩
  exact ⟨_, rfl, rfl, _, rfl, iteF (k H2 e2)⟩
theorem sc_need_text : FnScope ["thing", "place"] ["thing"] (defScope (top 21)) := ⟨rfl, rfl, rfl, by decide +kernel, rfl, by decide +kernel, by decide +kernel⟩
def H_need_text (P : Program) (w : World) (K : PySem.W.Frag) (mg : Str → Option Value) (base : Heap) : Prop := Has P w K mg base (CX0) 3 "need_text" ["thing"] (sp_need_text K)
theorem ok_need_text {f : Addr} {fd : FuncData} (F : FunD K "need_text" "need_text" (defArgs (top 21)) (defBody (top 21)) (defScope (top 21)) [] [] f fd) (T : Tp K mg)  (h_odd_place : H_odd_place P w K mg base) : FnOk P w K mg base (CX0) 3 f fd ["thing"] (sp_need_text K) := by
  refine F.ok sc_need_text (fun vs H Q E h => by (obtain ⟨_, rfl, _⟩ := h; rfl)) (fun cdv A outer s H vs Q E hr h => ?_)
  obtain ⟨p, rfl, hp, hl, k⟩ := h
  refine ⟨_, PSs.nox (pss_cons (ps_if (PW.pt (pw_or (pt_not (pt_val (pe_callB call_isi (by rfl) T.isinstance (by decide +kernel) (pa_cons (pv 0) (pa_cons (pe_bltn (v := .ty "str") (u := .type "str") (by rfl) T.str (by decide +kernel) rfl) pa_nil))))) (pw_or1 (pt_cmpR op_gt (pe_callB call_len_str (by rfl) T.len PySem.boot_len (pa_cons (pv 0) pa_nil)) (pglobI rfl T.cText) (nomark _))))) (pss_one ps_never) pss_nil) (pss_cons (ps_set (i := 1) sc_need_text.nd rfl (Or.inl rfl) (pcall h_odd_place hr rfl (pa_cons (pv 0) pa_nil))) (pss_one (ps_if (pt_cmpR op_notN (pv 1) pe_non (nomark _)) (pss_one ps_never) pss_nil)))), ?_⟩
  refine ⟨_, rfl, _, _, _, _, true, rfl, .ty _, .base (.str _), kit_ty (by decide +kernel), true, rfl, iteF ?_⟩
  refine ⟨_, rfl, _, rfl, Evl.sz_of (by rw [tx_len]; omega), _, _, rfl, rfl, _, rfl, ifF (decide_eq_false (by rw [tx_len]; omega)) ?_⟩
  refine ⟨_, rfl, _, rfl, hp, fun H2 e2 => ?_⟩
  exact ⟨_, rfl, rfl, _, rfl, iteF (k H2 e2)⟩
theorem sc_need_letter : FnScope ["thing"] ["thing"] (defScope (top 32)) := ⟨rfl, rfl, rfl, by decide +kernel, rfl, by decide +kernel, by decide +kernel⟩
def H_need_letter (P : Program) (w : World) (K : PySem.W.Frag) (mg : Str → Option Value) (base : Heap) : Prop := Has P w K mg base (CX0) 3 "need_letter" ["thing"] (sp_need_letter K)
theorem ok_need_letter {f : Addr} {fd : FuncData} (F : FunD K "need_letter" "need_letter" (defArgs (top 32)) (defBody (top 32)) (defScope (top 32)) [] [] f fd) (T : Tp K mg)  (h_is_letter : H_is_letter P w K mg base) : FnOk P w K mg base (CX0) 3 f fd ["thing"] (sp_need_letter K) := by
  refine F.ok sc_need_letter (fun vs H Q E h => by (obtain ⟨_, rfl, _⟩ := h; rfl)) (fun cdv A outer s H vs Q E hr h => ?_)
  obtain ⟨c, rfl, h1, h2, k⟩ := h
  refine ⟨_, PSs.nox (pss_one (ps_if (pt_not (pt_val (pcall h_is_letter hr rfl (pa_cons (pv 0) pa_nil)))) (pss_one ps_never) pss_nil)), ?_⟩
  exact ⟨_, rfl, _, rfl, h1, h2, fun H2 e2 => ⟨true, rfl, iteF (k H2 e2)⟩⟩
theorem sc_need_within : FnScope ["thing", "most"] ["thing", "most"] (defScope (top 37)) := ⟨rfl, rfl, rfl, by decide +kernel, rfl, by decide +kernel, by decide +kernel⟩
def H_need_within (P : Program) (w : World) (K : PySem.W.Frag) (mg : Str → Option Value) (base : Heap) : Prop := Has P w K mg base (CX0) 3 "need_within" ["thing", "most"] (sp_need_within K)
theorem ok_need_within {f : Addr} {fd : FuncData} (F : FunD K "need_within" "need_within" (defArgs (top 37)) (defBody (top 37)) (defScope (top 37)) [] [] f fd) (T : Tp K mg)  (h_is_whole : H_is_whole P w K mg base) : FnOk P w K mg base (CX0) 3 f fd ["thing", "most"] (sp_need_within K) := by
  refine F.ok sc_need_within (fun vs H Q E h => by (obtain ⟨_, _, rfl, _⟩ := h; rfl)) (fun cdv A outer s H vs Q E hr h => ?_)
  obtain ⟨n, b, rfl, h1, h2, k⟩ := h
  refine ⟨_, PSs.nox (pss_one (ps_if (pt_not (pt_val (pwhole h_is_whole hr rfl (pa_cons (pv 0) pa_nil) (pk_cons (pv 1) pk_nil)))) (pss_one ps_never) pss_nil)), ?_⟩
  exact ⟨_, rfl, _, rfl, rfl, rfl, whole_yes h1 h2 fun H2 e2 => ⟨true, rfl, iteF (k H2 e2)⟩⟩
theorem sc_need_cut : FnScope ["presses", "cut"] ["presses", "cut"] (defScope (top 40)) := ⟨rfl, rfl, rfl, by decide +kernel, rfl, by decide +kernel, by decide +kernel⟩
def H_need_cut (P : Program) (w : World) (K : PySem.W.Frag) (mg : Str → Option Value) (base : Heap) : Prop := Has P w K mg base (CX0) 4 "need_cut" ["presses", "cut"] (sp_need_cut K)
theorem ok_need_cut {f : Addr} {fd : FuncData} (F : FunD K "need_cut" "need_cut" (defArgs (top 40)) (defBody (top 40)) (defScope (top 40)) [] [] f fd) (T : Tp K mg)  (h_need_presses : H_need_presses P w K mg base) (h_need_within : H_need_within P w K mg base) : FnOk P w K mg base (CX0) 4 f fd ["presses", "cut"] (sp_need_cut K) := by
  refine F.ok sc_need_cut (fun vs H Q E h => by (obtain ⟨_, _, rfl, _⟩ := h; rfl)) (fun cdv A outer s H vs Q E hr h => ?_)
  obtain ⟨p, n, rfl, h1, h2, k⟩ := h
  refine ⟨_, PSs.nox (pss_cons (ps_expr (pcall h_need_presses hr rfl (pa_cons (pv 0) pa_nil))) (pss_one (ps_expr (pcall h_need_within hr rfl (pa_cons (pv 1) (pa_cons (pe_callB call_len_str (by rfl) T.len PySem.boot_len (pa_cons (pv 0) pa_nil)) pa_nil)))))), ?_⟩
  refine ⟨_, rfl, _, rfl, h1, fun H1 e1 => ?_⟩
  exact ⟨_, rfl, _, rfl, _, rfl, Evl.sz_of (by rw [tx_len]; have := h1.len; omega), _, _, rfl, by omega, by rw [tx_len]; omega, fun H2 e2 => k H2 (e1.trans e2)⟩
end
end Mw
end
section
set_option Elab.async false
set_option linter.all false
set_option maxRecDepth 100000
set_option maxHeartbeats 4000000
/-! mirrors: lasts_of, lengths_of, length, growths -/
namespace Mw
open PySem PySem.Spec PyProof.Rows L2 Mir Mr
theorem gs_get (p : Wd) (i : Nat) (h : i < p.length) : (gs [] p)[i]? = some (gr (p.take i) p[i]) := by
  have e : p = p.take i ++ p[i] :: p.drop (i + 1) := by rw [← List.drop_eq_getElem_cons h, List.take_append_drop]
  have e2 : gs [] p = gs [] (p.take i) ++ gr (p.take i) p[i] :: gs (p.take i ++ [p[i]]) (p.drop (i + 1)) := by
    have := gs_app [] (p.take i) (p[i] :: p.drop (i + 1))
    rw [← e] at this
    exact this
  rw [e2, List.getElem?_append_right (by rw [gs_len]; simp; omega)]
  have : i - (gs [] (p.take i)).length = 0 := by rw [gs_len, List.length_take]; omega
  rw [this]; rfl
theorem L_take_le (p : Wd) (i : Nat) : L (p.take i) ≤ L p := by
  have h := L_mono (p.take i) (p.drop i)
  rwa [List.take_append_drop] at h
theorem L_take_mono (p : Wd) {i j : Nat} (h : i ≤ j) : L (p.take i) ≤ L (p.take j) := by
  have := L_take_le (p.take j) i
  rwa [List.take_take, Nat.min_eq_left h] at this
theorem L_take_succ (p : Wd) (i : Nat) (h : i < p.length) : L (p.take (i + 1)) = gr (p.take i) p[i] + L (p.take i) := by rw [take_succ' h, L_snoc]
def sp_lasts_of (K : Frag) : Sp := fun vs H Q _ => ∃ p : Wd, vs = [.str (tx p)] ∧ PrOk p ∧ RetL (lastsV p p.length) H Q
def sp_lengths_of (K : Frag) : Sp := fun vs H Q _ => ∃ p : Wd, vs = [.str (tx p)] ∧ PrOk p ∧ RetL (iV (lens p)) H Q
def sp_length (K : Frag) : Sp := fun vs H Q _ => ∃ p : Wd, vs = [.str (tx p)] ∧ PrOk p ∧ RetV (.int (L p : Nat)) H Q
def sp_growths (K : Frag) : Sp := fun vs H Q _ => ∃ p : Wd, vs = [.str (tx p)] ∧ PrOk p ∧ RetT (iV (gs [] p)) H Q
section
variable {P : Program} {w : World} {K : Frag} {mg : Str → Option Value} {base : Heap}
theorem inr_tx {a b : Nat} : ((Sum.inr (tx [a]) : Key) = Sum.inr (tx [b])) ↔ a = b :=
  ⟨fun h => by have := tx_inj (Sum.inr.inj h); injection this, fun h => by rw [h]⟩
theorem sc_lasts_of : FnScope ["presses", "last", "found", "at", "letter"] ["presses"] (defScope (top 24)) := ⟨rfl, rfl, rfl, by decide +kernel, rfl, by decide +kernel, by decide +kernel⟩
def H_lasts_of (P : Program) (w : World) (K : PySem.W.Frag) (mg : Str → Option Value) (base : Heap) : Prop := Has P w K mg base (CX0) 1 "lasts_of" ["presses"] (sp_lasts_of K)
theorem ok_lasts_of {f : Addr} {fd : FuncData} (F : FunD K "lasts_of" "lasts_of" (defArgs (top 24)) (defBody (top 24)) (defScope (top 24)) [] [] f fd) (T : Tp K mg)   : FnOk P w K mg base (CX0) 1 f fd ["presses"] (sp_lasts_of K) := by
  refine F.ok sc_lasts_of (fun vs H Q E h => by (obtain ⟨_, rfl, _⟩ := h; rfl)) (fun cdv A outer s H vs Q E hr h => ?_)
  obtain ⟨p, rfl, hp, k⟩ := h
  refine ⟨_, PSs.nox (pss_cons (ps_par (i := 1) (j := 2) (by rfl) sc_lasts_of.nd rfl rfl (by decide) rfl rfl (pa_cons pe_dnewK (pa_cons (pe_lst pa_nil) pa_nil)) (by rfl)) (pss_cons (ps_for PassesOwn.never rfl (pi_enumS (by rfl) T.enumerate (pa_cons (pv 0) pa_nil)) (pg_tup rfl (pgs_cons (pg_name (i := 3) sc_lasts_of.nd rfl (Or.inl rfl)) (pgs_cons (pg_name (i := 4) sc_lasts_of.nd rfl (Or.inl rfl)) pgs_nil))) (pss_cons (ps_expr (pe_bm PySem.F.plainAttrs_list PySem.F.slot_list_append PySem.F.type_list_append mt_append (pv 2) (pa_cons (pe_dget1 (hu_of hr) (pv 1) (pv 4) ⟨by rfl, by rfl, by rfl, by rfl⟩) pa_nil))) (pss_one (ps_dput (hu_of hr) (pv 1) (pv 4) (pv 3) rfl)))) (pss_one (ps_ret (pv 2))))), ?_⟩
  intro d hd
  refine ⟨by show 0 ≤ sizeLine; decide, fun l hl => ⟨_, _, rfl, ?_⟩⟩
  have hdl : d ≠ l := fun z => by rw [z, upd_same] at hl; cases hl
  have hl' : H l = none := by rwa [upd_ne (Ne.symm hdl)] at hl
  refine ⟨_, rfl, _, rfl, for_it walk_enumS (fun i σ H' => Evl.Ex H H' ∧ (∃ a b, σ = [some (.str (tx p)), some (.ref d), some (.ref l), a, b]) ∧ H' l = some (.lst (lastsV p i)) ∧
    ∃ kvs, H' d = some (.dK kvs) ∧ kvs.length ≤ i ∧ ∀ c : Nat, valV kvs (.inr (tx [c])) = (lastIx (p.take i) c).map fun j => V.int (j : Nat)) ?_ (fun _ _ _ _ _ => trivial) ?_ ?_⟩
  · refine ⟨((Evl.Ex.refl H).mut hd).mut hl', ⟨_, _, rfl⟩, upd_same, [], by rw [upd_ne hdl]; exact upd_same, Nat.le_refl _, fun c => rfl⟩
  · rintro i v σ H1 H2 hi ⟨e1, ⟨a, b, rfl⟩, h1, kvs, h2, h3, h4⟩ ⟨T, x, y, rfl, hT, rfl, hx, hy⟩
    cases hx
    obtain ⟨hi', rfl⟩ := str_turn hy
    refine pair_go ?_
    have dT : d ≠ T := ne_of_none h2 hT
    have lT : l ≠ T := ne_of_none h1 hT
    have hlen := hp.len
    refine ⟨_, rfl, .inl ⟨rfl, _, SqL.of (by rw [upd_ne lT]; exact h1)⟩, ⟨_, rfl, d, rfl, .inl ⟨kvs, .inl (by rw [upd_ne dT]; exact h2)⟩, _, rfl, _, DGet.k (k := .inr (tx [p[i]])) (by rw [upd_ne dT]; exact h2), ?_⟩⟩
    refine ⟨l, _, _, rfl, rfl, by rw [upd_ne lT]; exact h1, Evl.sz_lt (by rw [lastsV_len]; omega), ?_⟩
    refine ⟨_, rfl, _, rfl, _, rfl, d, _, rfl, DPut.k (k := .inr (tx [p[i]])) (kvs := kvs) (by rw [upd_ne hdl, upd_ne dT]; exact h2) (Evl.sz_lt (by omega)), ?_⟩
    refine ⟨((e1.trans (Evl.Ex.new hT)).mut hl').mut hd, ⟨_, _, rfl⟩, ?_, _, upd_same, ?_, fun c => ?_⟩
    · rw [upd_ne (Ne.symm hdl), upd_same, lastsV_succ p i hi', h4]
      cases lastIx (p.take i) p[i] <;> rfl
    · have := putK_len kvs (.inr (tx [p[i]])) (.int (i : Nat))
      omega
    · rw [valV_put, take_succ' hi', lastIx_snoc, h4]
      by_cases hc : p[i] = c
      · rw [if_pos (inr_tx.mpr hc.symm), if_pos hc]
        simp [List.length_take, Nat.min_eq_left (Nat.le_of_lt hi')]
      · rw [if_neg (fun z => hc (inr_tx.mp z).symm), if_neg hc]
  · rintro σ H1 ⟨e1, ⟨a, b, rfl⟩, h1, kvs, h2, h3, h4⟩
    rw [tx_size] at h1
    exact ⟨_, rfl, k l H1 hl' e1 h1⟩
theorem sc_lengths_of : FnScope ["presses", "found", "shared"] ["presses"] (defScope (top 25)) := ⟨rfl, rfl, rfl, by decide +kernel, rfl, by decide +kernel, by decide +kernel⟩
def H_lengths_of (P : Program) (w : World) (K : PySem.W.Frag) (mg : Str → Option Value) (base : Heap) : Prop := Has P w K mg base (CX0) 2 "lengths_of" ["presses"] (sp_lengths_of K)
theorem ok_lengths_of {f : Addr} {fd : FuncData} (F : FunD K "lengths_of" "lengths_of" (defArgs (top 25)) (defBody (top 25)) (defScope (top 25)) [] [] f fd) (T : Tp K mg)  (h_lasts_of : H_lasts_of P w K mg base) : FnOk P w K mg base (CX0) 2 f fd ["presses"] (sp_lengths_of K) := by
  refine F.ok sc_lengths_of (fun vs H Q E h => by (obtain ⟨_, rfl, _⟩ := h; rfl)) (fun cdv A outer s H vs Q E hr h => ?_)
  obtain ⟨p, rfl, hp, k⟩ := h
  refine ⟨_, PSs.nox (pss_cons (ps_set (i := 1) sc_lengths_of.nd rfl (Or.inl rfl) (pe_lst (pa_cons pe_int pa_nil))) (pss_cons (ps_for PassesOwn.never rfl (pi_list (pcall h_lasts_of hr rfl (pa_cons (pv 0) pa_nil))) (pg_name (i := 2) sc_lengths_of.nd rfl (Or.inl rfl)) (pss_one (ps_expr (pe_bm PySem.F.plainAttrs_list PySem.F.slot_list_append PySem.F.type_list_append mt_append (pv 1) (pa_cons (pe_ifExp (pt_cmpR op_isN (pv 2) pe_non (nomark _)) (pe_op op_add (pe_op op_mul pe_int (pe_ix ix_list (pv 1) (pe_un un_neg pe_int) (fun _ _ => rfl))) pe_int) (pe_op op_sub (pe_op op_mul pe_int (pe_ix ix_list (pv 1) (pe_un un_neg pe_int) (fun _ _ => rfl))) (pe_ix ix_list (pv 1) (pv 2) (fun _ _ => rfl)))) pa_nil))))) (pss_one (ps_ret (pv 1))))), ?_⟩
  refine ⟨by show 1 ≤ sizeLine; decide, fun l hl => ?_⟩
  refine ⟨_, rfl, _, rfl, hp, fun a H1 ha e1 h1 => ⟨_, rfl, ⟨_, SqL.of h1⟩, ?_⟩⟩
  have hal : a ≠ l := fun z => by rw [z, upd_same] at ha; cases ha
  have haH : H a = none := by rwa [upd_ne hal] at ha
  refine for_it (walk_list (xs := lastsV p p.length)) (fun i σ H' => Evl.Ex H H' ∧ (∃ b, σ = [some (.str (tx p)), some (.ref l), b]) ∧ H' a = some (.lst (lastsV p p.length)) ∧ H' l = some (.lst (iV ((List.range (i + 1)).map fun j => L (p.take j))))) ?_ (fun _ _ _ _ h => SqL.of h.2.2.1) ?_ ?_
  · refine ⟨((Evl.Ex.refl H).mut hl).trans e1, ⟨_, rfl⟩, h1, e1 _ _ upd_same⟩
  · rintro i v σ H3 H2 hi ⟨e2, ⟨b, rfl⟩, h2, h3⟩ ⟨rfl, hv⟩
    rw [lastsV_len] at hi
    rw [lastsV_get p _ i hi hi] at hv
    cases hv
    have hlen := hp.len
    have eL : (iV ((List.range (i + 1)).map fun j => L (p.take j))) = iV ((List.range i).map fun j => L (p.take j)) ++ [.int (L (p.take i) : Nat)] := by
      rw [List.range_succ, List.map_append]; simp [iV]
    have last : atI (iV ((List.range (i + 1)).map fun j => L (p.take j))) (-1) = some (.int (L (p.take i) : Nat)) := atI_neg1 eL
    have sq := SqL.of (K := K) h3
    have step : ∀ z : Int, z = (L (p.take (i + 1)) : Nat) → upd H2 l (.lst (iV ((List.range (i + 1)).map fun j => L (p.take j)) ++ [.int z])) l = some (.lst (iV ((List.range (i + 1 + 1)).map fun j => L (p.take j)))) := by
      rintro z rfl
      rw [upd_same, List.range_succ (n := i + 1), List.map_append]
      simp [iV]
    have e3 : Evl.Ex H H2 := e2
    have fin : ∀ z : Int, z = (L (p.take (i + 1)) : Nat) → Evl.Ex H (upd H2 l (.lst (iV ((List.range (i + 1)).map fun j => L (p.take j)) ++ [.int z]))) ∧ (∃ b, ([some (.str (tx p)), some (.ref l), some (oV (lastIx (p.take i) p[i]))] : L2.St) = [some (.str (tx p)), some (.ref l), b]) ∧
        upd H2 l (.lst (iV ((List.range (i + 1)).map fun j => L (p.take j)) ++ [.int z])) a = some (.lst (lastsV p p.length)) ∧ upd H2 l (.lst (iV ((List.range (i + 1)).map fun j => L (p.take j)) ++ [.int z])) l = some (.lst (iV ((List.range (i + 1 + 1)).map fun j => L (p.take j)))) := fun z hz =>
      ⟨e3.mut hl, ⟨_, rfl⟩, by rw [upd_ne hal]; exact h2, step z hz⟩
    have eS := L_step (p.take i) p[i]
    rw [← take_succ' hi] at eS
    have hsz : (iV ((List.range (i + 1)).map fun j => L (p.take j))).length < sizeLine := Evl.sz_lt (by rw [iV_len]; simp; omega)
    refine ⟨_, rfl, .inl ⟨rfl, _, sq⟩, ?_⟩
    refine ⟨_, rfl, rfl, ?_⟩
    cases e : lastIx (p.take i) p[i] with
    | none =>
      rw [e] at eS fin
      replace eS : L (p.take (i + 1)) = 2 * L (p.take i) + 1 := eS
      refine ⟨_, rfl, iteT ?_⟩
      refine ⟨_, rfl, _, rfl, l, _, _, _, rfl, rfl, sq, last, ?_⟩
      refine ⟨_, _, rfl, rfl, .inl (by decide), _, _, rfl, rfl, l, _, _, rfl, rfl, h3, hsz, ?_⟩
      exact fin _ (by rw [eS]; omega)
    | some j =>
      rw [e] at eS fin
      obtain ⟨j1, _, _⟩ := lastIx_some _ _ _ e
      rw [List.length_take] at j1
      have hj : j < i := by omega
      have hle : L ((p.take i).take j) ≤ L (p.take i) := L_step_le _ _ _ e
      have ej : (p.take i).take j = p.take j := by rw [List.take_take, Nat.min_eq_left (by omega)]
      have getj : (iV ((List.range (i + 1)).map fun j => L (p.take j)))[j]? = some (.int (L (p.take j) : Nat)) := by
        have hj' : j < i + 1 := by omega
        rw [iV_get]; simp [hj']
      replace eS : L (p.take (i + 1)) = 2 * L (p.take i) - L ((p.take i).take j) := eS
      rw [ej] at eS hle
      refine ⟨_, rfl, iteF ?_⟩
      refine ⟨_, rfl, _, rfl, l, _, _, _, rfl, rfl, sq, last, ?_⟩
      refine ⟨_, _, rfl, rfl, .inl (by decide), _, rfl, _, rfl, l, _, _, _, rfl, rfl, sq, atI_nat getj, ?_⟩
      refine ⟨_, _, rfl, rfl, l, _, _, rfl, rfl, h3, hsz, ?_⟩
      exact fin _ (by rw [eS]; omega)
  · rintro σ H2 ⟨e2, ⟨b, rfl⟩, h2, h3⟩
    rw [lastsV_len] at h3
    exact ⟨_, rfl, k l H2 hl e2 h3⟩
theorem sc_length : FnScope ["presses"] ["presses"] (defScope (top 26)) := ⟨rfl, rfl, rfl, by decide +kernel, rfl, by decide +kernel, by decide +kernel⟩
def H_length (P : Program) (w : World) (K : PySem.W.Frag) (mg : Str → Option Value) (base : Heap) : Prop := Has P w K mg base (CX0) 4 "length" ["presses"] (sp_length K)
theorem ok_length {f : Addr} {fd : FuncData} (F : FunD K "length" "length" (defArgs (top 26)) (defBody (top 26)) (defScope (top 26)) [] [] f fd) (T : Tp K mg)  (h_need_presses : H_need_presses P w K mg base) (h_lengths_of : H_lengths_of P w K mg base) : FnOk P w K mg base (CX0) 4 f fd ["presses"] (sp_length K) := by
  refine F.ok sc_length (fun vs H Q E h => by (obtain ⟨_, rfl, _⟩ := h; rfl)) (fun cdv A outer s H vs Q E hr h => ?_)
  obtain ⟨p, rfl, hp, k⟩ := h
  refine ⟨_, PSs.nox (pss_cons (ps_expr (pcall h_need_presses hr rfl (pa_cons (pv 0) pa_nil))) (pss_one (ps_ret (pe_ix ix_list (pcall h_lengths_of hr rfl (pa_cons (pv 0) pa_nil)) (pe_un un_neg pe_int) (fun _ _ => rfl))))), ?_⟩
  refine ⟨_, rfl, _, rfl, hp, fun H1 e1 => ?_⟩
  refine ⟨_, rfl, _, rfl, hp, fun a H2 ha e2 h2 => ?_⟩
  exact ⟨_, rfl, _, _, _, _, rfl, rfl, SqL.of h2, lensV_last p, k H2 (e1.trans e2)⟩
theorem sc_growths : FnScope ["presses", "lengths", "ahead", "after"] ["presses"] (defScope (top 27)) := ⟨rfl, rfl, rfl, by decide +kernel, rfl, by decide +kernel, by decide +kernel⟩
def H_growths (P : Program) (w : World) (K : PySem.W.Frag) (mg : Str → Option Value) (base : Heap) : Prop := Has P w K mg base (CX0) 4 "growths" ["presses"] (sp_growths K)
theorem ok_growths {f : Addr} {fd : FuncData} (F : FunD K "growths" "growths" (defArgs (top 27)) (defBody (top 27)) (defScope (top 27)) [] [] f fd) (T : Tp K mg)  (h_need_presses : H_need_presses P w K mg base) (h_lengths_of : H_lengths_of P w K mg base) : FnOk P w K mg base (CX0) 4 f fd ["presses"] (sp_growths K) := by
  refine F.ok sc_growths (fun vs H Q E h => by (obtain ⟨_, rfl, _⟩ := h; rfl)) (fun cdv A outer s H vs Q E hr h => ?_)
  obtain ⟨p, rfl, hp, k⟩ := h
  refine ⟨_, PSs.nox (pss_cons (ps_expr (pcall h_need_presses hr rfl (pa_cons (pv 0) pa_nil))) (pss_cons (ps_set (i := 1) sc_growths.nd rfl (Or.inl rfl) (pcall h_lengths_of hr rfl (pa_cons (pv 0) pa_nil))) (pss_one (ps_ret (pe_callTy call_tuple_of (by rfl) T.tuple (by decide +kernel) (pa_cons (pe_lc (own := [("ahead", 2), ("after", 3)]) (g := gTup K 2 (gCons (gName 2) (gCons (gName 3) gNil))) (tt := tYes) rfl sc_growths.nd (pi_zip (by rfl) T.zip (pa_cons (pv 1) (pa_cons (pe_slice sl_list (pv 1) (po_some pe_int) po_none) pa_nil))) (blkOk_by (own := [("ahead", 2), ("after", 3)]) (N := ["presses", "lengths", "ahead", "after"]) (sc := defScope (top 27)) (by decide +kernel)) (fun _ _ _ _ _ => (pg_tup rfl (pgs_cons (pg_name (i := 2) sc_growths.nd rfl (Or.inl rfl) (Or.inr rfl)) (pgs_cons (pg_name (i := 3) sc_growths.nd rfl (Or.inl rfl) (Or.inr rfl)) pgs_nil)))) (fun _ _ _ _ _ => pts_nil) (fun _ _ _ _ _ => (pe_op op_sub (pv 3) (pv 2)))) pa_nil)))))), ?_⟩
  refine ⟨_, rfl, _, rfl, hp, fun H1 e1 => ?_⟩
  refine ⟨_, rfl, _, rfl, hp, fun a H2 ha e2 h2 => ?_⟩
  refine ⟨_, rfl, _, rfl, _, rfl, a, _, rfl, SqL.of h2, fun q hq => ?_⟩
  have haq : a ≠ q := ne_of_none h2 hq
  have ecut : cutV (iV (lens p)) (some 1) none = (iV (lens p)).drop 1 := cutV_lo _ 1 (by rw [iV_len, lens_len]; omega)
  rw [ecut]
  have hlen := hp.len
  refine ⟨a, q, _, _, rfl, SqL.of (by rw [upd_ne haq]; exact h2), SqL.of upd_same, fun D hD => ?_⟩
  have hDa : a ≠ D := ne_of_none (show upd H2 q _ a = some _ by rw [upd_ne haq]; exact h2) hD
  have hDq : q ≠ D := ne_of_none (show upd H2 q _ q = some _ from upd_same) hD
  have hDH : H2 D = none := by rwa [upd_ne (Ne.symm hDq)] at hD
  refine lc_it (walk_zip (xs := iV (lens p)) (ys := (iV (lens p)).drop 1) (n := p.length) (by rw [List.length_drop, iV_len, lens_len]; omega)) (fun i H' => Evl.Ex H2 H' ∧ H' q = some (.lst ((iV (lens p)).drop 1)) ∧ H' D = some (.lst (iV ((gs [] p).take i)))) ?_ (fun i H' _ h => ⟨SqL.of (h.1 _ _ h2), SqL.of h.2.1⟩) ?_ ?_
  · exact ⟨((Evl.Ex.refl H2).mut hq).mut hDH, by rw [upd_ne hDq]; exact upd_same, by rw [upd_same]; rfl⟩
  · rintro i v H3 H4 hi ⟨e3, h3, h4⟩ ⟨T, x, y, rfl, hT, rfl, hx, hy⟩
    have hx' : x = .int (L (p.take i) : Nat) := by
      have := hx
      simp only [lensV_get p i (Nat.le_of_lt hi)] at this
      exact (Option.some.inj this).symm
    have hy' : y = .int (L (p.take (i + 1)) : Nat) := by
      have := hy
      simp only [List.getElem?_drop, Nat.add_comm 1 i, lensV_get p (i + 1) hi] at this
      exact (Option.some.inj this).symm
    subst hx' hy'
    refine pair_go ⟨rfl, ?_⟩
    have DT : D ≠ T := ne_of_none h4 hT
    have qT : q ≠ T := ne_of_none h3 hT
    refine ⟨_, rfl, _, rfl, _, _, rfl, rfl, _, by rw [upd_ne DT]; exact h4, Evl.sz_lt (by rw [iV_len, List.length_take]; omega), ?_⟩
    refine ⟨(e3.trans (Evl.Ex.new hT)).mut hDH, by rw [upd_ne hDq, upd_ne qT]; exact h3, ?_⟩
    rw [upd_same]
    have eg : (L (p.take (i + 1)) : Int) - (L (p.take i) : Int) = (gr (p.take i) p[i] : Nat) := by rw [L_take_succ p i hi]; omega
    have et : (gs [] p).take (i + 1) = (gs [] p).take i ++ [gr (p.take i) p[i]] := by
      rw [List.take_succ, gs_get p i hi]; rfl
    simp only [eg, et]
    simp [iV]
  · rintro H3 ⟨e3, h3, h4⟩
    rw [List.take_of_length_le (by rw [gs_len]; exact Nat.le_refl _)] at h4
    have hDH1 : H D = none := Evl.fresh_back (e1.trans e2) hDH
    refine ⟨D, _, rfl, .inl ⟨SqL.of h4, fun t ht => ?_⟩⟩
    exact k t _ (Evl.fresh_back ((e1.trans e2).trans e3) ht) (((e1.trans e2).trans e3).trans (Evl.Ex.new ht)) upd_same
end
end Mw
end
section
set_option Elab.async false
set_option linter.all false
set_option maxRecDepth 100000
set_option maxHeartbeats 4000000
/-! mirrors: letter_there, letter_at, window, mirror_text -/
namespace Mw
open PySem PySem.Spec PyProof.Rows L2 Mir Mr
/-- the letter at a place -/
def at_ (v : Wd) (n : Nat) : Nat := (M v).getD n 0
theorem at_some (v : Wd) (n : Nat) (h : n < L v) : (M v)[n]? = some (at_ v n) := by
  have h' : n < (M v).length := h
  unfold at_
  rw [List.getElem?_eq_getElem h', List.getD_eq_getElem?_getD, List.getElem?_eq_getElem h']
  rfl
theorem mem_M : ∀ (v : Wd) (c : Nat), c ∈ M v → c ∈ v := by
  refine snoc_ind (fun c h => by simp [M] at h) fun t x ih c h => ?_
  rw [M_step] at h
  cases e : lastIx t x with
  | none =>
    rw [e] at h
    have h : c ∈ M t ++ x :: M t := h
    rcases List.mem_append.mp h with q | q
    · exact List.mem_append_left _ (ih c q)
    · rcases List.mem_cons.mp q with q | q
      · rw [q]; simp
      · exact List.mem_append_left _ (ih c q)
  | some j =>
    rw [e] at h
    have h : c ∈ M t ++ (M t).drop (L (t.take j)) := h
    rcases List.mem_append.mp h with q | q
    · exact List.mem_append_left _ (ih c q)
    · exact List.mem_append_left _ (ih c (List.mem_of_mem_drop q))
theorem Good.M {v : Wd} (h : Good v) : Good (Mir.M v) := h.sub (mem_M v)
theorem Good.at_ {v : Wd} (h : Good v) {n : Nat} (hn : n < L v) : 97 ≤ Mw.at_ v n ∧ Mw.at_ v n ≤ 122 := h.M _ (List.mem_of_getElem? (at_some v n hn))
theorem flat1 : ∀ l : Wd, (l.map fun c => [c]).flatten = l
  | [] => rfl
  | c :: l => by simp [flat1 l]
def sp_letter_there (K : Frag) : Sp := fun vs H Q _ => ∃ (p : Wd) (a : Addr) (n : Nat), vs = [.str (tx p), .ref a, .int n] ∧ PrOk p ∧ SqL K H a (iV (lens p)) ∧ n < L p ∧ RetV (.str (tx [at_ p n])) H Q
def sp_letter_at (K : Frag) : Sp := fun vs H Q _ => ∃ (p : Wd) (n : Nat), vs = [.str (tx p), .int n] ∧ PrOk p ∧ n < L p ∧ RetV (.str (tx [at_ p n])) H Q
def sp_window (K : Frag) : Sp := fun vs H Q _ => ∃ (p : Wd) (a n : Nat), vs = [.str (tx p), .int a, .int n] ∧ PrOk p ∧ n ≤ 1000 ∧ a + n ≤ L p ∧ L p < 2 ^ 61 ∧ RetV (.str (tx (((M p).drop a).take n))) H Q
def sp_mirror_text (K : Frag) : Sp := fun vs H Q _ => ∃ p : Wd, vs = [.str (tx p)] ∧ PrOk p ∧ L p ≤ 20000 ∧ RetV (.str (tx (M p))) H Q
section
variable {P : Program} {w : World} {K : Frag} {mg : Str → Option Value} {base : Heap}
theorem sc_letter_there : FnScope ["presses", "lengths", "place", "at"] ["presses", "lengths", "place"] (defScope (top 28)) := ⟨rfl, rfl, rfl, by decide +kernel, rfl, by decide +kernel, by decide +kernel⟩
def H_letter_there (P : Program) (w : World) (K : PySem.W.Frag) (mg : Str → Option Value) (base : Heap) : Prop := Has P w K mg base (CX0) 1 "letter_there" ["presses", "lengths", "place"] (sp_letter_there K)
theorem ok_letter_there {f : Addr} {fd : FuncData} (F : FunD K "letter_there" "letter_there" (defArgs (top 28)) (defBody (top 28)) (defScope (top 28)) [] [] f fd) (T : Tp K mg)   : FnOk P w K mg base (CX0) 1 f fd ["presses", "lengths", "place"] (sp_letter_there K) := by
  refine F.ok sc_letter_there (fun vs H Q E h => by (obtain ⟨_, _, _, rfl, _⟩ := h; rfl)) (fun cdv A outer s H vs Q E hr h => ?_)
  obtain ⟨p, a, n, rfl, hp, ha, hn, k⟩ := h
  refine ⟨_, PSs.nox (pss_cons (ps_for PassesOwn.never rfl (pi_range3 rfl T.range (pa_cons (pe_op op_sub (pe_callB call_len_str (by rfl) T.len PySem.boot_len (pa_cons (pv 0) pa_nil)) pe_int) (pa_cons (pe_un un_neg pe_int) (pa_cons (pe_un un_neg pe_int) pa_nil)))) (pg_name (i := 3) sc_letter_there.nd rfl (Or.inl rfl)) (pss_one (ps_if (pt_cmpR op_ge (pv 2) (pe_ix ix_list (pv 1) (pv 3) (fun _ _ => rfl)) (nomark _)) (Evl.pss_cut (ps_if (PW.pt (pw_and (pt_cmpR op_eq (pv 2) (pe_ix ix_list (pv 1) (pv 3) (fun _ _ => rfl)) (nomark _)) (pw_and1 (pt_cmpR op_eq (pe_ix ix_list (pv 1) (pe_op op_add (pv 3) pe_int) (fun _ _ => rfl)) (pe_op op_add (pe_op op_mul pe_int (pe_ix ix_list (pv 1) (pv 3) (fun _ _ => rfl))) pe_int) (nomark _))))) (pss_one (ps_ret (pe_ix ix_str (pv 0) (pv 3) (fun _ _ => rfl)))) pss_nil) (pss_one (ps_aug (i := 2) sc_letter_there.nd rfl (Or.inl rfl) (pe_op op_sub (pe_ix ix_list (pv 1) (pe_op op_add (pv 3) pe_int) (fun _ _ => rfl)) (pe_ix ix_list (pv 1) (pv 3) (fun _ _ => rfl))) ip_sub))) pss_nil))) (pss_one (ps_ret pe_str))), ?_⟩
  have hl := tx_len p
  have hp2 := hp.len
  refine ⟨_, rfl, _, rfl, Evl.sz_of (by omega), _, _, rfl, rfl, _, rfl, _, rfl, _, _, _, _, rfl, RgC.neg (by omega) (by omega) (by omega) (by omega), ?_⟩
  refine for_it walk_rangeC (fun i σ H' => Evl.Ex H H' ∧ ∃ (b : Option V) (n' : Nat), σ = [some (.str (tx p)), some (.ref a), some (.int (n' : Nat)), b] ∧ n' < L (p.take (p.length - i)) ∧ (M (p.take (p.length - i)))[n']? = some (at_ p n)) ?_ (fun _ _ _ _ _ => trivial) ?_ ?_
  · refine ⟨Evl.Ex.refl H, _, n, rfl, ?_, ?_⟩
    · rw [Nat.sub_zero, List.take_length]; exact hn
    · rw [Nat.sub_zero, List.take_length]; exact at_some p n hn
  · rintro i v σ H1 H2 hi ⟨e1, b, n', rfl, h1, h2⟩ ⟨rfl, hv⟩
    have hm : p.length - 1 - i < p.length := by omega
    have em : p.length - i = p.length - 1 - i + 1 := by omega
    have ee : (((tx p).length : Nat) : Int) - 1 + (i : Nat) * (-1) = ((p.length - 1 - i : Nat) : Int) := by omega
    have ev : v = .int ((p.length - 1 - i : Nat) : Int) := by rw [hv, ← ee]
    clear ee hv
    rw [em] at h1 h2
    have em2 : p.length - (i + 1) = p.length - 1 - i := by omega
    generalize hM : p.length - 1 - i = m at *
    subst ev
    have sq := Evl.ex_l e1 ha
    have g0 := atI_nat (lensV_get p m (by omega))
    have g1 : atI (iV (lens p)) ((m : Int) + 1) = some (.int (L (p.take (m + 1)) : Nat)) := atI_nat (j := m + 1) (lensV_get p (m + 1) (by omega))
    rw [take_succ' hm] at h1 h2 g1
    refine ⟨_, rfl, _, rfl, _, rfl, _, _, _, _, rfl, rfl, sq, g0, _, _, rfl, rfl, _, rfl, ite2 (fun hge => ?_) (fun hge => ?_)⟩
    · have hge := of_decide_eq_true hge
      refine ⟨fun σ' H' => σ' = [some (.str (tx p)), some (.ref a), some (.int (n' : Nat)), some (.int (m : Nat))] ∧ H' = H2 ∧ ¬ (n' = L (p.take m) ∧ p[m] ∉ p.take m), ?_, ?_⟩
      · refine ⟨_, rfl, _, rfl, _, rfl, _, _, _, _, rfl, rfl, sq, g0, rfl, _, rfl, ite2 (fun hq => ?_) (fun hq => ?_)⟩
        · have hq := of_decide_eq_true hq
          have hq : n' = L (p.take m) := by injection hq with hq; omega
          refine ⟨_, rfl, _, rfl, _, _, rfl, rfl, _, _, _, _, rfl, rfl, sq, g1, _, rfl, _, rfl, _, _, _, _, rfl, rfl, sq, g0, _, _, rfl, rfl, .inl (by decide), _, _, rfl, rfl, rfl, _, rfl, ite2 (fun hr2 => ?_) (fun hr2 => ?_)⟩
          · refine ⟨_, rfl, _, rfl, _, _, _, rfl, rfl, Evl.sz_of (by omega), atI_nat (j := m) (xs := p) (List.getElem?_eq_getElem hm), ?_⟩
            have e := M_mid (p.take m) p[m]
            rw [← hq, h2] at e
            rw [Option.some.inj e] at k
            exact k H2 e1
          · refine ⟨rfl, rfl, fun z => hr2 (decide_eq_true ?_)⟩
            rw [(new_iff (p.take m) p[m]).mpr z.2]
            congr 1
        · exact iteF ⟨rfl, rfl, fun z => hq (decide_eq_true (by rw [z.1]))⟩
      · rintro σ' H' ⟨rfl, rfl, hno⟩
        refine ⟨_, rfl, _, rfl, _, rfl, _, _, rfl, rfl, _, _, _, _, rfl, rfl, sq, g1, _, rfl, _, rfl, _, _, _, _, rfl, rfl, sq, g0, _, _, rfl, rfl, _, _, rfl, rfl, ?_⟩
        have hgr : gr (p.take m) p[m] ≤ n' := by
          rw [gr_step]
          cases e : lastIx (p.take m) p[m] with
          | none =>
            have : n' ≠ L (p.take m) := fun z => hno ⟨z, (lastIx_none _ _).mp e⟩
            show L (p.take m) + 1 ≤ n'
            omega
          | some j =>
            show L (p.take m) - L ((p.take m).take j) ≤ n'
            omega
        rw [L_snoc] at h1
        rw [M_hi _ _ _ hgr] at h2
        refine ⟨e1, some (.int (m : Nat)), n' - gr (p.take m) p[m], ?_, ?_, ?_⟩
        · rw [L_snoc]
          have ee : (n' : Int) - (((gr (p.take m) p[m] + L (p.take m) : Nat) : Int) - ((L (p.take m) : Nat) : Int)) = ((n' - gr (p.take m) p[m] : Nat) : Int) := by omega
          show _ = _
          rw [← ee]
          rfl
        · rw [em2]; omega
        · rw [em2]; exact h2
    · have hge : ¬ ((n' : Int) ≥ (L (p.take m) : Nat)) := fun z => hge (decide_eq_true z)
      have hlt : n' < L (p.take m) := by omega
      rw [M_lo _ _ _ hlt] at h2
      exact ⟨e1, _, n', rfl, by rw [em2]; exact hlt, by rw [em2]; exact h2⟩
  · rintro σ H1 ⟨e1, b, n', rfl, h1, h2⟩
    have e0 : p.length - ((((tx p).length : Nat) : Int) - 1 - -1).toNat = 0 := by omega
    rw [e0] at h1
    exact absurd h1 (by rw [List.take_zero, L_nil]; omega)
theorem sc_letter_at : FnScope ["presses", "place", "lengths"] ["presses", "place"] (defScope (top 29)) := ⟨rfl, rfl, rfl, by decide +kernel, rfl, by decide +kernel, by decide +kernel⟩
def H_letter_at (P : Program) (w : World) (K : PySem.W.Frag) (mg : Str → Option Value) (base : Heap) : Prop := Has P w K mg base (CX0) 4 "letter_at" ["presses", "place"] (sp_letter_at K)
theorem ok_letter_at {f : Addr} {fd : FuncData} (F : FunD K "letter_at" "letter_at" (defArgs (top 29)) (defBody (top 29)) (defScope (top 29)) [] [] f fd) (T : Tp K mg)  (h_need_presses : H_need_presses P w K mg base) (h_lengths_of : H_lengths_of P w K mg base) (h_is_whole : H_is_whole P w K mg base) (h_letter_there : H_letter_there P w K mg base) : FnOk P w K mg base (CX0) 4 f fd ["presses", "place"] (sp_letter_at K) := by
  refine F.ok sc_letter_at (fun vs H Q E h => by (obtain ⟨_, _, rfl, _⟩ := h; rfl)) (fun cdv A outer s H vs Q E hr h => ?_)
  obtain ⟨p, n, rfl, hp, hn, k⟩ := h
  refine ⟨_, PSs.nox (pss_cons (ps_expr (pcall h_need_presses hr rfl (pa_cons (pv 0) pa_nil))) (pss_cons (ps_set (i := 2) sc_letter_at.nd rfl (Or.inl rfl) (pcall h_lengths_of hr rfl (pa_cons (pv 0) pa_nil))) (pss_cons (ps_if (pt_not (pt_val (pwhole h_is_whole hr rfl (pa_cons (pv 1) pa_nil) (pk_cons (pe_op op_sub (pe_ix ix_list (pv 2) (pe_un un_neg pe_int) (fun _ _ => rfl)) pe_int) pk_nil)))) (pss_one ps_never) pss_nil) (pss_one (ps_ret (pcall h_letter_there hr rfl (pa_cons (pv 0) (pa_cons (pv 2) (pa_cons (pv 1) pa_nil))))))))), ?_⟩
  refine ⟨_, rfl, _, rfl, hp, fun H1 e1 => ?_⟩
  refine ⟨_, rfl, _, rfl, hp, fun a H2 ha e2 h2 => ?_⟩
  refine ⟨_, rfl, _, rfl, _, rfl, _, _, _, _, rfl, rfl, SqL.of h2, lensV_last p, _, _, rfl, rfl, rfl, rfl, whole_yes (by omega) (by omega) fun H3 e3 => ⟨true, rfl, ?_⟩⟩
  refine iteF ⟨_, rfl, _, rfl, _, rfl, _, _, _, rfl, hp, SqL.of (e3 _ _ h2), hn, fun H4 e4 => k H4 ?_⟩
  exact ((e1.trans e2).trans e3).trans e4
theorem sc_window : FnScope ["presses", "start", "many", "lengths", "place"] ["presses", "start", "many"] (defScope (top 30)) := ⟨rfl, rfl, rfl, by decide +kernel, rfl, by decide +kernel, by decide +kernel⟩
def H_window (P : Program) (w : World) (K : PySem.W.Frag) (mg : Str → Option Value) (base : Heap) : Prop := Has P w K mg base (CX0) 4 "window" ["presses", "start", "many"] (sp_window K)
theorem ok_window {f : Addr} {fd : FuncData} (F : FunD K "window" "window" (defArgs (top 30)) (defBody (top 30)) (defScope (top 30)) [] [] f fd) (T : Tp K mg)  (h_need_presses : H_need_presses P w K mg base) (h_lengths_of : H_lengths_of P w K mg base) (h_is_whole : H_is_whole P w K mg base) (h_letter_there : H_letter_there P w K mg base) : FnOk P w K mg base (CX0) 4 f fd ["presses", "start", "many"] (sp_window K) := by
  refine F.ok sc_window (fun vs H Q E h => by (obtain ⟨_, _, _, rfl, _⟩ := h; rfl)) (fun cdv A outer s H vs Q E hr h => ?_)
  obtain ⟨p, a, n, rfl, hp, hn, han, hbig, k⟩ := h
  refine ⟨_, PSs.nox (pss_cons (ps_expr (pcall h_need_presses hr rfl (pa_cons (pv 0) pa_nil))) (pss_cons (ps_set (i := 3) sc_window.nd rfl (Or.inr rfl) (pcall h_lengths_of hr rfl (pa_cons (pv 0) pa_nil))) (pss_cons (ps_if (pt_not (pt_val (pwhole h_is_whole hr rfl (pa_cons (pv 1) pa_nil) (pk_cons (pe_ix ix_list (pv 3) (pe_un un_neg pe_int) (fun _ _ => rfl)) pk_nil)))) (pss_one ps_never) pss_nil) (pss_cons (ps_if (pt_not (pt_val (pwhole h_is_whole hr rfl (pa_cons (pv 2) pa_nil) (pk_cons (pe_callB (call_min2 rfl) (by rfl) T.min (by decide +kernel) (pa_cons (pglobI rfl T.cWindow) (pa_cons (pe_op op_sub (pe_ix ix_list (pv 3) (pe_un un_neg pe_int) (fun _ _ => rfl)) (pv 1)) pa_nil))) pk_nil)))) (pss_one ps_never) pss_nil) (pss_one (ps_ret (pe_join pe_str (pe_lc (own := [("place", 4)]) (g := gName 4) (tt := tYes) rfl sc_window.nd (pi_range2 rfl T.range (pa_cons (pv 1) (pa_cons (pe_op op_add (pv 1) (pv 2)) pa_nil))) (blkOk_by (own := [("place", 4)]) (N := ["presses", "start", "many", "lengths", "place"]) (sc := defScope (top 30)) (by decide +kernel)) (fun _ _ _ _ _ => pg_name (i := 4) sc_window.nd rfl (Or.inl rfl)) (fun _ _ _ _ _ => pts_nil) (fun _ _ _ _ _ => (pcall h_letter_there hr rfl (pa_cons (pv 0) (pa_cons (pv 3) (pa_cons (pv 4) pa_nil))))))))))))), ?_⟩
  refine ⟨_, rfl, _, rfl, hp, fun H1 e1 => ?_⟩
  refine ⟨_, rfl, _, rfl, hp, fun l H2 hl e2 h2 => ?_⟩
  refine ⟨_, rfl, _, rfl, _, rfl, _, _, _, _, rfl, rfl, SqL.of h2, lensV_last p, rfl, rfl, whole_yes (by omega) (by omega) fun H3 e3 => ⟨true, rfl, ?_⟩⟩
  have h3 := e3 _ _ h2
  refine iteF ⟨_, rfl, _, rfl, _, rfl, _, _, _, _, rfl, rfl, SqL.of h3, lensV_last p, _, rfl, _, _, rfl, rfl, _, _, rfl, rfl, rfl, whole_yes (by omega) (by split <;> omega) fun H4 e4 => ⟨true, rfl, ?_⟩⟩
  have h4 := e4 _ _ h3
  have e04 := ((e1.trans e2).trans e3).trans e4
  refine iteF ⟨⟨_, rfl⟩, _, rfl, _, rfl, _, rfl, _, _, rfl, rfl, _, _, rfl, ⟨by omega, by omega, by omega, by omega⟩, fun D hD => ?_⟩
  have eT : ((a : Int) + (n : Int) - (a : Int)).toNat = n := by omega
  refine lc_it walk_range (fun i H' => Evl.Ex H4 H' ∧ H' D = some (.lst ((((M p).drop a).take i).map fun c => V.str (tx [c])))) ?_ (fun _ _ _ _ => trivial) ?_ ?_
  · exact ⟨(Evl.Ex.refl H4).mut hD, by rw [upd_same]; rfl⟩
  · rintro i v H5 H6 hi ⟨e5, h5⟩ ⟨rfl, rfl⟩
    rw [eT] at hi
    have hai : a + i < L p := by omega
    refine ⟨rfl, ?_⟩
    refine ⟨_, rfl, _, rfl, _, rfl, _, _, a + i, rfl, hp, SqL.of (e5 _ _ h4), hai, fun H7 e7 => ⟨_, e7 _ _ h5, Evl.sz_lt (by simp; omega), (e5.trans e7).mut hD, ?_⟩⟩
    rw [upd_same, List.take_succ, List.getElem?_drop, at_some p (a + i) hai]
    simp
  · rintro H5 ⟨e5, h5⟩
    rw [eT] at h5
    refine ⟨_, D, ((((M p).drop a).take n).map fun c => [c]).map tx, rfl, rfl, .inl (SqL.of (by rw [h5, List.map_map, List.map_map]; rfl)), ?_, ?_⟩
    · have hs : (List.map (fun x => x.length) (((((M p).drop a).take n).map fun c => [c]).map tx)).sum ≤ 1000 := by
        have : ∀ l : Wd, (List.map (fun x : Str => x.length) ((l.map fun c => [c]).map tx)).sum = l.length := by
          intro l
          induction l with
          | nil => rfl
          | cons c l ih =>
            rw [List.map_cons, List.map_cons, List.map_cons, List.sum_cons, ih, tx_len]
            simp; omega
        rw [this, List.length_take]; omega
      have h0 : (Str.ofString "").length = 0 := by decide +kernel
      rw [h0]
      omega
    · rw [join_tx, flat1]
      exact k H5 (e04.trans e5)
theorem sc_mirror_text : FnScope ["presses", "lengths", "found", "letter", "shared"] ["presses"] (defScope (top 31)) := ⟨rfl, rfl, rfl, by decide +kernel, rfl, by decide +kernel, by decide +kernel⟩
def H_mirror_text (P : Program) (w : World) (K : PySem.W.Frag) (mg : Str → Option Value) (base : Heap) : Prop := Has P w K mg base (CX0) 4 "mirror_text" ["presses"] (sp_mirror_text K)
theorem ok_mirror_text {f : Addr} {fd : FuncData} (F : FunD K "mirror_text" "mirror_text" (defArgs (top 31)) (defBody (top 31)) (defScope (top 31)) [] [] f fd) (T : Tp K mg)  (h_need_presses : H_need_presses P w K mg base) (h_lengths_of : H_lengths_of P w K mg base) (h_lasts_of : H_lasts_of P w K mg base) : FnOk P w K mg base (CX0) 4 f fd ["presses"] (sp_mirror_text K) := by
  refine F.ok sc_mirror_text (fun vs H Q E h => by (obtain ⟨_, rfl, _⟩ := h; rfl)) (fun cdv A outer s H vs Q E hr h => ?_)
  obtain ⟨p, rfl, hp, hL, k⟩ := h
  refine ⟨_, PSs.nox (pss_cons (ps_expr (pcall h_need_presses hr rfl (pa_cons (pv 0) pa_nil))) (pss_cons (ps_set (i := 1) sc_mirror_text.nd rfl (Or.inl rfl) (pcall h_lengths_of hr rfl (pa_cons (pv 0) pa_nil))) (pss_cons (ps_if (pt_cmpR op_gt (pe_ix ix_list (pv 1) (pe_un un_neg pe_int) (fun _ _ => rfl)) (pglobI rfl T.cText) (nomark _)) (pss_one ps_never) pss_nil) (pss_cons (ps_set (i := 2) sc_mirror_text.nd rfl (Or.inl rfl) pe_str) (pss_cons (ps_for PassesOwn.never rfl (pi_zipS (by rfl) T.zip (pa_cons (pv 0) (pa_cons (pcall h_lasts_of hr rfl (pa_cons (pv 0) pa_nil)) pa_nil))) (pg_tup rfl (pgs_cons (pg_name (i := 3) sc_mirror_text.nd rfl (Or.inl rfl)) (pgs_cons (pg_name (i := 4) sc_mirror_text.nd rfl (Or.inl rfl)) pgs_nil))) (pss_one (ps_set (i := 2) sc_mirror_text.nd rfl (Or.inl rfl) (pe_ifExp (pt_cmpR op_isN (pv 4) pe_non (nomark _)) (pe_op op_add_str (pe_op op_add_str (pv 2) (pv 3)) (pv 2)) (pe_op op_add_str (pv 2) (pe_slice sl_str (pv 2) (po_some (pe_ix ix_list (pv 1) (pv 4) (fun _ _ => rfl))) po_none)))))) (pss_one (ps_ret (pv 2)))))))), ?_⟩
  refine ⟨_, rfl, _, rfl, hp, fun H1 e1 => ?_⟩
  refine ⟨_, rfl, _, rfl, hp, fun a H2 ha e2 h2 => ?_⟩
  refine ⟨_, rfl, _, rfl, _, _, _, _, rfl, rfl, SqL.of h2, lensV_last p, _, _, rfl, rfl, _, rfl, ifF (decide_eq_false (by omega)) ?_⟩
  refine ⟨_, rfl, _, rfl, _, rfl, hp, fun b H3 hb e3 h3 => ⟨_, b, _, rfl, SqL.of h3, ?_⟩⟩
  have e03 := (e1.trans e2).trans e3
  have h2' := e3 _ _ h2
  refine for_it (walk_zipS (by rw [tx_size, lastsV_len])) (fun i σ H' => Evl.Ex H3 H' ∧ ∃ c d, σ = [some (.str (tx p)), some (.ref a), some (.str (tx (M (p.take i)))), c, d]) ?_ (fun _ _ _ _ h => SqL.of (h.1 _ _ h3)) ?_ ?_
  · exact ⟨Evl.Ex.refl H3, _, _, by rw [List.take_zero]; show _ = _; rw [show tx (M []) = ("" : Str) from tx_nil]; rfl⟩
  · rintro i v σ H4 H5 hi ⟨e4, c, d, rfl⟩ ⟨T, x, y, rfl, hT, rfl, hx, hy⟩
    obtain ⟨hi', rfl⟩ := str_turn hx
    replace hy : (lastsV p p.length)[i]? = some y := hy
    rw [lastsV_get p _ i hi' hi'] at hy
    cases hy
    refine pair_go ?_
    have eS := M_step (p.take i) p[i]
    rw [← take_succ' hi'] at eS
    have hLi : L (p.take (i + 1)) ≤ 20000 := Nat.le_trans (L_take_le p _) hL
    have hL0 : (M (p.take i)).length ≤ 20000 := Nat.le_trans (L_take_le p _) hL
    have e5 := e4.trans (Evl.Ex.new (o := .tup [.str (tx [p[i]]), oV (lastIx (p.take i) p[i])]) hT)
    refine ⟨_, rfl, rfl, ?_⟩
    cases e : lastIx (p.take i) p[i] with
    | none =>
      rw [e] at eS e5
      replace eS : M (p.take (i + 1)) = M (p.take i) ++ p[i] :: M (p.take i) := eS
      refine ⟨_, rfl, iteT ?_⟩
      refine ⟨_, rfl, _, rfl, _, _, rfl, rfl, Evl.sz_of (by rw [tx_len, tx_len]; simp; omega), _, rfl, _, _, rfl, rfl, Evl.sz_of ?_, ?_⟩
      · rw [tx_app, tx_len, tx_len]; simp; omega
      · rw [tx_app, tx_app]
        refine ⟨e5, some (.str (tx [p[i]])), some (oV none), ?_⟩
        rw [eS]
        simp
    | some j =>
      rw [e] at eS e5
      replace eS : M (p.take (i + 1)) = M (p.take i) ++ (M (p.take i)).drop (L ((p.take i).take j)) := eS
      obtain ⟨j1, _, _⟩ := lastIx_some _ _ _ e
      rw [List.length_take] at j1
      have ej : (p.take i).take j = p.take j := by rw [List.take_take, Nat.min_eq_left (by omega)]
      have hle : L ((p.take i).take j) ≤ L (p.take i) := L_step_le _ _ _ e
      rw [ej] at eS hle
      refine ⟨_, rfl, iteF ?_⟩
      refine ⟨_, rfl, _, rfl, _, rfl, _, rfl, _, _, _, _, rfl, rfl, SqL.of (e5 _ _ h2'), atI_nat (lensV_get p j (by omega)), _, rfl, _, rfl, Evl.sz_of (by rw [tx_len]; omega), ?_⟩
      rw [cutS_lo _ _ hle]
      refine ⟨_, _, rfl, rfl, Evl.sz_of (by rw [tx_len, tx_len]; simp; omega), ?_⟩
      rw [tx_app]
      refine ⟨e5, some (.str (tx [p[i]])), some (oV (some j)), ?_⟩
      rw [eS]
      rfl
  · rintro σ H4 ⟨e4, c, d, rfl⟩
    rw [tx_size, List.take_length]
    exact ⟨_, rfl, k H4 (e03.trans e4)⟩
end
end Mw
end
section
set_option Elab.async false
set_option linter.all false
set_option maxRecDepth 100000
set_option maxHeartbeats 4000000
/-! ways: added_by, block_length, digits_of, value_of, block_of, block_start -/
namespace Mw
open PySem PySem.Spec PyProof.Rows L2 Mir Mr
theorem gs_drop (p : Wd) (j : Nat) (h : j ≤ p.length) : (gs [] p).drop j = gs (p.take j) (p.drop j) := by
  have e := gs_app [] (p.take j) (p.drop j)
  rw [List.take_append_drop] at e
  rw [e, List.drop_append_of_le_length (by rw [gs_len, List.length_take]; omega)]
  rw [List.drop_of_length_le (by rw [gs_len, List.length_take]; omega)]
  rfl
theorem gs_take (p : Wd) (j : Nat) (h : j ≤ p.length) : (gs [] p).take j = gs [] (p.take j) := by
  have e := gs_app [] (p.take j) (p.drop j)
  rw [List.take_append_drop] at e
  rw [e, List.take_append_of_le_length (by rw [gs_len, List.length_take]; omega)]
  rw [List.take_of_length_le (by rw [gs_len, List.length_take]; omega)]
theorem gs_drop_sum (p : Wd) (j : Nat) (h : j ≤ p.length) : ((gs [] p).drop j).sum = L p - L (p.take j) := by
  have e := gs_sum (p.take j) (p.drop j)
  rw [List.take_append_drop] at e
  rw [gs_drop p j h]
  omega
theorem iV_rev (g : List Nat) : (iV g).reverse = iV g.reverse := by simp [iV]
/-- the growths whose digit is 1 -/
def ones : List Nat → List Nat → List Nat
  | g :: gs, d :: ds => if d = 1 then g :: ones gs ds else ones gs ds
  | _, _ => []
theorem ones_sum : ∀ g d : List Nat, (ones g d).sum = val g d
  | g :: gs, d :: ds => by
    show (if d = 1 then g :: ones gs ds else ones gs ds).sum = (if d = 1 then g else 0) + val gs ds
    split
    · rw [List.sum_cons, ones_sum gs ds]
    · rw [ones_sum gs ds]; omega
  | [], _ => rfl
  | _ :: _, [] => rfl
theorem ones_len : ∀ g d : List Nat, (ones g d).length ≤ g.length
  | g :: gs, d :: ds => by
    show (if d = 1 then g :: ones gs ds else ones gs ds).length ≤ gs.length + 1
    have := ones_len gs ds
    split
    · simp; omega
    · omega
  | [], _ => Nat.le_refl _
  | _ :: _, [] => Nat.zero_le _
theorem ones_app : ∀ (g d : List Nat) (x y : Nat), g.length = d.length → ones (g ++ [x]) (d ++ [y]) = ones g d ++ (if y = 1 then [x] else [])
  | [], [], x, y, _ => rfl
  | g :: gs, d :: ds, x, y, h => by
    have ih := ones_app gs ds x y (by simpa using h)
    show (if d = 1 then g :: ones (gs ++ [x]) (ds ++ [y]) else ones (gs ++ [x]) (ds ++ [y])) = (if d = 1 then g :: ones gs ds else ones gs ds) ++ _
    rw [ih]
    split <;> simp
  | [], d :: ds, _, _, h => by simp at h
  | g :: gs, [], _, _, h => by simp at h
theorem dg_01 : ∀ (g : List Nat) (n : Nat), ∀ d ∈ dg g n, d ≤ 1
  | [], n, d, h => by simp [dg] at h
  | y :: g, n, d, h => by
    unfold dg at h
    split at h
    · rcases List.mem_cons.mp h with q | q
      · omega
      · exact dg_01 g _ d q
    · rcases List.mem_cons.mp h with q | q
      · omega
      · exact dg_01 g _ d q
def sp_added_by (K : Frag) : Sp := fun vs H Q _ => ∃ (p : Wd) (c : Nat), vs = [.str (tx p), .str (tx [c])] ∧ PrOk p ∧ RetV (.int (gr p c : Nat)) H Q
def sp_block_length (K : Frag) : Sp := fun vs H Q _ => ∃ (p : Wd) (c : Nat), vs = [.str (tx p), .str (tx [c])] ∧ PrOk p ∧ 97 ≤ c ∧ c ≤ 122 ∧ RetV (.int (gr p c : Nat)) H Q
def sp_digits_of (K : Frag) : Sp := fun vs H Q _ => ∃ (a : Addr) (g : List Nat) (n : Nat), vs = [.ref a, .int n] ∧ SqT K H a (iV g) ∧ g.length ≤ 200 ∧ RetT (iV (digs g n)) H Q
def sp_value_of (K : Frag) : Sp := fun vs H Q _ => ∃ (a b : Addr) (g d : List Nat), vs = [.ref a, .ref b] ∧ SqT K H a (iV g) ∧ SqT K H b (iV d) ∧ g.length = d.length ∧ g.length ≤ 200 ∧ RetV (.int (val g d : Nat)) H Q
def sp_block_of (K : Frag) : Sp := fun vs H Q _ => ∃ (p : Wd) (c n : Nat), vs = [.str (tx p), .int c, .int n] ∧ PrOk p ∧ c ≤ p.length ∧ n < L p ∧
  RetT [.int (val (gs [] (p.drop c)) ((digs (gs [] p) n).drop c) : Nat), .int (val (gs [] (p.take c)) ((digs (gs [] p) n).take c) : Nat)] H Q
def sp_block_start (K : Frag) : Sp := fun vs H Q _ => ∃ (p : Wd) (c n : Nat), vs = [.str (tx p), .int c, .int n] ∧ PrOk p ∧ c ≤ p.length ∧ n ≤ L (p.drop c) ∧ RetV (.int (bs (p.take c) (p.drop c) n : Nat)) H Q
section
variable {P : Program} {w : World} {K : Frag} {mg : Str → Option Value} {base : Heap}
theorem sc_added_by : FnScope ["presses", "letter", "grown"] ["presses", "letter"] (defScope (top 38)) := ⟨rfl, rfl, rfl, by decide +kernel, rfl, by decide +kernel, by decide +kernel⟩
def H_added_by (P : Program) (w : World) (K : PySem.W.Frag) (mg : Str → Option Value) (base : Heap) : Prop := Has P w K mg base (CX0) 5 "added_by" ["presses", "letter"] (sp_added_by K)
theorem ok_added_by {f : Addr} {fd : FuncData} (F : FunD K "added_by" "added_by" (defArgs (top 38)) (defBody (top 38)) (defScope (top 38)) [] [] f fd) (T : Tp K mg)  (h_growths : H_growths P w K mg base) : FnOk P w K mg base (CX0) 5 f fd ["presses", "letter"] (sp_added_by K) := by
  refine F.ok sc_added_by (fun vs H Q E h => by (obtain ⟨_, _, rfl, _⟩ := h; rfl)) (fun cdv A outer s H vs Q E hr h => ?_)
  obtain ⟨p, c, rfl, hp, k⟩ := h
  refine ⟨_, PSs.nox (pss_cons (ps_set (i := 2) sc_added_by.nd rfl (Or.inl rfl) (pcall h_growths hr rfl (pa_cons (pv 0) pa_nil))) (pss_one (ps_ret (pe_ifExp (pt_cmpR op_in_sign (pv 1) (pv 0) rfl) (pe_callB (cr_sumN rfl) (by rfl) T.sum (by decide +kernel) (pa_cons (pe_slice sl_tupG (pv 2) (po_some (pe_bm PySem.F.plainAttrs_str PySem.F.slot_str_rfind PySem.F.type_str_rfind mt_rfind (pv 0) (pa_cons (pv 1) pa_nil))) po_none) pa_nil)) (pe_op op_add (pe_callB (cr_sumN rfl) (by rfl) T.sum (by decide +kernel) (pa_cons (pv 2) pa_nil)) pe_int))))), ?_⟩
  refine ⟨_, rfl, _, rfl, hp, fun a H1 ha e1 h1 => ?_⟩
  have hs := gr_step p c
  refine ⟨_, rfl, _, rfl, c, _, rfl, rfl, _, rfl, ite2 (fun hc => ?_) (fun hc => ?_)⟩
  · have hc := of_decide_eq_true hc
    have hc : c ∈ p := hc
    cases e : lastIx p c with
    | none => exact absurd hc ((lastIx_none p c).mp e)
    | some j =>
      rw [e] at hs
      replace hs : gr p c = L p - L (p.take j) := hs
      obtain ⟨j1, _, _⟩ := lastIx_some _ _ _ e
      refine ⟨_, rfl, _, rfl, rfl, _, rfl, _, _, rfl, rfl, j, by rw [rfind_one, e]; rfl, a, _, rfl, SqT.of h1, fun q H2 e2 sq => ?_⟩
      rw [cutV_lo _ _ (by rw [iV_len, gs_len]; omega), iV_drop] at sq
      refine ⟨_, _, rfl, sq, ?_⟩
      rw [gs_drop_sum p j (by omega), ← hs]
      exact k H2 (e1.trans e2)
  · have hc : ¬ c ∈ p := fun z => hc (decide_eq_true z)
    rw [(lastIx_none p c).mpr hc] at hs
    replace hs : gr p c = L p + 1 := hs
    refine ⟨_, rfl, _, _, rfl, SqT.of h1, _, _, rfl, rfl, ?_⟩
    rw [gs_sum0]
    rw [hs] at k
    exact k H1 e1
theorem sc_block_length : FnScope ["presses", "letter"] ["presses", "letter"] (defScope (top 39)) := ⟨rfl, rfl, rfl, by decide +kernel, rfl, by decide +kernel, by decide +kernel⟩
def H_block_length (P : Program) (w : World) (K : PySem.W.Frag) (mg : Str → Option Value) (base : Heap) : Prop := Has P w K mg base (CX0) 6 "block_length" ["presses", "letter"] (sp_block_length K)
theorem ok_block_length {f : Addr} {fd : FuncData} (F : FunD K "block_length" "block_length" (defArgs (top 39)) (defBody (top 39)) (defScope (top 39)) [] [] f fd) (T : Tp K mg)  (h_need_presses : H_need_presses P w K mg base) (h_need_letter : H_need_letter P w K mg base) (h_added_by : H_added_by P w K mg base) : FnOk P w K mg base (CX0) 6 f fd ["presses", "letter"] (sp_block_length K) := by
  refine F.ok sc_block_length (fun vs H Q E h => by (obtain ⟨_, _, rfl, _⟩ := h; rfl)) (fun cdv A outer s H vs Q E hr h => ?_)
  obtain ⟨p, c, rfl, hp, h1, h2, k⟩ := h
  refine ⟨_, PSs.nox (pss_cons (ps_expr (pcall h_need_presses hr rfl (pa_cons (pv 0) pa_nil))) (pss_cons (ps_expr (pcall h_need_letter hr rfl (pa_cons (pv 1) pa_nil))) (pss_one (ps_ret (pcall h_added_by hr rfl (pa_cons (pv 0) (pa_cons (pv 1) pa_nil))))))), ?_⟩
  refine ⟨_, rfl, _, rfl, hp, fun H1 e1 => ?_⟩
  refine ⟨_, rfl, _, rfl, h1, h2, fun H2 e2 => ?_⟩
  exact ⟨_, rfl, _, rfl, _, _, rfl, hp, fun H3 e3 => k H3 ((e1.trans e2).trans e3)⟩
theorem sc_digits_of : FnScope ["grown", "place", "found", "left", "growth"] ["grown", "place"] (defScope (top 41)) := ⟨rfl, rfl, rfl, by decide +kernel, rfl, by decide +kernel, by decide +kernel⟩
def H_digits_of (P : Program) (w : World) (K : PySem.W.Frag) (mg : Str → Option Value) (base : Heap) : Prop := Has P w K mg base (CX0) 1 "digits_of" ["grown", "place"] (sp_digits_of K)
theorem ok_digits_of {f : Addr} {fd : FuncData} (F : FunD K "digits_of" "digits_of" (defArgs (top 41)) (defBody (top 41)) (defScope (top 41)) [] [] f fd) (T : Tp K mg)   : FnOk P w K mg base (CX0) 1 f fd ["grown", "place"] (sp_digits_of K) := by
  refine F.ok sc_digits_of (fun vs H Q E h => by (obtain ⟨_, _, _, rfl, _⟩ := h; rfl)) (fun cdv A outer s H vs Q E hr h => ?_)
  obtain ⟨a, g, n, rfl, ha, hg, k⟩ := h
  refine ⟨_, PSs.nox (pss_cons (ps_par (i := 2) (j := 3) (by rfl) sc_digits_of.nd rfl rfl (by decide) rfl rfl (pa_cons (pe_lst pa_nil) (pa_cons (pv 1) pa_nil)) (by rfl)) (pss_cons (ps_for PassesOwn.never rfl (pi_tup (pe_revT (pv 0))) (pg_name (i := 4) sc_digits_of.nd rfl (Or.inl rfl)) (pss_cons (ps_expr (pe_bm PySem.F.plainAttrs_list PySem.F.slot_list_append PySem.F.type_list_append mt_append (pv 2) (pa_cons (pe_callTy call_int1 (by rfl) T.int (by decide +kernel) (pa_cons (pe_cmpR op_ge (pv 3) (pv 4) (nomark _)) pa_nil)) pa_nil))) (pss_one (ps_aug (i := 3) sc_digits_of.nd rfl (Or.inl rfl) (pe_op op_mul (pv 4) (pe_ix ix_list (pv 2) (pe_un un_neg pe_int) (fun _ _ => rfl))) ip_sub)))) (pss_one (ps_ret (pe_callTy call_tuple_of (by rfl) T.tuple (by decide +kernel) (pa_cons (pe_revL (pv 2)) pa_nil)))))), ?_⟩
  refine ⟨by show 0 ≤ sizeLine; decide, fun l hl => ⟨_, rfl, _, _, rfl, ?_⟩⟩
  refine ⟨_, rfl, a, _, rfl, Evl.ex_t (Evl.Ex.new hl) ha, fun b hb => ⟨b, rfl, ⟨_, SqT.of upd_same⟩, ?_⟩⟩
  rw [iV_rev] at *
  have lb : l ≠ b := fun z => by rw [← z, upd_same] at hb; cases hb
  have hbH : H b = none := by rwa [upd_ne (Ne.symm lb)] at hb
  generalize hG : g.reverse = G
  have hGl : G.length ≤ 200 := by rw [← hG, List.length_reverse]; exact hg
  refine for_it (walk_tup (xs := iV G)) (fun i σ H' => Evl.Ex H H' ∧ (∃ (m : Nat) (c : Option V), σ = [some (.ref a), some (.int (n : Nat)), some (.ref l), some (.int (m : Nat)), c] ∧ dg (G.drop i) m = (dg G n).drop i) ∧ H' b = some (.tup (iV G)) ∧ H' l = some (.lst (iV ((dg G n).take i)))) ?_ (fun _ _ _ _ h => SqT.of h.2.2.1) ?_ ?_
  · exact ⟨((Evl.Ex.refl H).mut hl).mut hbH, ⟨n, none, rfl, rfl⟩, upd_same, by rw [upd_ne lb]; exact upd_same⟩
  · rintro i v σ H2 H1 hi ⟨e1, ⟨m, c, rfl, hm⟩, h1, h2⟩ ⟨rfl, hv⟩
    rw [iV_len] at hi
    have hv' : v = .int (G[i] : Nat) := by
      rw [iV_get, List.getElem?_eq_getElem hi] at hv
      exact (Option.some.inj hv).symm
    subst hv'
    have hi2 : i < (dg G n).length := by rw [dg_len]; exact hi
    rw [List.drop_eq_getElem_cons hi, List.drop_eq_getElem_cons hi2] at hm
    have hsz : (iV ((dg G n).take i)).length < sizeLine := Evl.sz_lt (by rw [iV_len, List.length_take, dg_len]; omega)
    have htake : (dg G n).take (i + 1) = (dg G n).take i ++ [(dg G n)[i]] := take_succ' hi2
    have step : ∀ (z : Int) (m' : Nat), z = ((dg G n)[i] : Nat) → dg (G.drop (i + 1)) m' = (dg G n).drop (i + 1) →
        Evl.Ex H (upd H1 l (.lst (iV ((dg G n).take i) ++ [.int z]))) ∧ (∃ (m : Nat) (c : Option V), ([some (.ref a), some (.int (n : Nat)), some (.ref l), some (.int (m' : Nat)), some (.int (G[i] : Nat))] : L2.St) = [some (.ref a), some (.int (n : Nat)), some (.ref l), some (.int (m : Nat)), c] ∧ dg (G.drop (i + 1)) m = (dg G n).drop (i + 1)) ∧
          upd H1 l (.lst (iV ((dg G n).take i) ++ [.int z])) b = some (.tup (iV G)) ∧ upd H1 l (.lst (iV ((dg G n).take i) ++ [.int z])) l = some (.lst (iV ((dg G n).take (i + 1)))) := by
      rintro z m' rfl hm'
      refine ⟨e1.mut hl, ⟨m', _, rfl, hm'⟩, by rw [upd_ne (Ne.symm lb)]; exact h1, ?_⟩
      rw [upd_same, htake]
      show _ = some (HO.lst (((dg G n).take i ++ [(dg G n)[i]]).map fun n : Nat => V.int (n : Int)))
      rw [List.map_append]
      rfl
    refine ⟨_, rfl, .inl ⟨rfl, _, SqL.of h2⟩, _, rfl, _, rfl, _, _, rfl, rfl, .inr ⟨_, rfl, l, _, _, rfl, rfl, h2, hsz, ?_⟩⟩
    have last : ∀ z : V, atI (iV ((dg G n).take i) ++ [z]) (-1) = some z := fun z => atI_neg1 rfl
    refine ⟨_, rfl, _, rfl, _, rfl, _, rfl, l, _, _, _, rfl, rfl, SqL.of upd_same, last _, ?_⟩
    by_cases hge : G[i] ≤ m
    · have hd : decide ((G[i] : Int) ≤ (m : Int)) = true := decide_eq_true (by omega)
      have hm3 : 1 :: dg (G.drop (i + 1)) (m - G[i]) = (dg G n)[i] :: (dg G n).drop (i + 1) := by
        rw [← hm]
        show _ = (if G[i] ≤ m then 1 :: dg (G.drop (i + 1)) (m - G[i]) else 0 :: dg (G.drop (i + 1)) m)
        rw [if_pos hge]
      injection hm3 with q1 q2
      simp only [hd, if_true]
      refine ⟨_, _, rfl, rfl, .inr (by decide), _, _, rfl, rfl, ?_⟩
      have em : (m : Int) - (G[i] : Int) * 1 = ((m - G[i] : Nat) : Int) := by omega
      have := step 1 (m - G[i]) (by rw [← q1]; rfl) q2
      rw [← em] at this
      exact this
    · have hd : decide ((G[i] : Int) ≤ (m : Int)) = false := decide_eq_false (by omega)
      have hm3 : 0 :: dg (G.drop (i + 1)) m = (dg G n)[i] :: (dg G n).drop (i + 1) := by
        rw [← hm]
        show _ = (if G[i] ≤ m then 1 :: dg (G.drop (i + 1)) (m - G[i]) else 0 :: dg (G.drop (i + 1)) m)
        rw [if_neg hge]
      injection hm3 with q1 q2
      simp only [hd, if_false, Bool.false_eq_true]
      refine ⟨_, _, rfl, rfl, .inr (by decide), _, _, rfl, rfl, ?_⟩
      have em : (m : Int) - (G[i] : Int) * 0 = (m : Int) := by omega
      have := step 0 m (by rw [← q1]; rfl) q2
      rw [← em] at this
      exact this
  · rintro σ H1 ⟨e1, ⟨m, c, rfl, hm⟩, h1, h2⟩
    rw [iV_len, List.take_of_length_le (by rw [dg_len]; exact Nat.le_refl _)] at h2
    refine ⟨_, rfl, l, _, rfl, SqL.of h2, fun q hq => ⟨q, _, rfl, .inl ⟨SqL.of upd_same, fun t ht => ?_⟩⟩⟩
    rw [iV_rev]
    have hqH := Evl.fresh_back e1 hq
    have e2 := e1.trans (Evl.Ex.new (o := .lst (iV (dg G n).reverse)) hq)
    rw [iV_rev] at ht
    have := k t (upd (upd H1 q (.lst (iV (dg G n).reverse))) t (.tup (iV (dg G n).reverse))) (Evl.fresh_back e2 ht) (e2.trans (Evl.Ex.new ht))
    unfold digs at this
    rw [hG] at this
    exact this upd_same
theorem sc_value_of : FnScope ["grown", "digits", "growth", "digit"] ["grown", "digits"] (defScope (top 42)) := ⟨rfl, rfl, rfl, by decide +kernel, rfl, by decide +kernel, by decide +kernel⟩
def H_value_of (P : Program) (w : World) (K : PySem.W.Frag) (mg : Str → Option Value) (base : Heap) : Prop := Has P w K mg base (CX0) 1 "value_of" ["grown", "digits"] (sp_value_of K)
theorem ok_value_of {f : Addr} {fd : FuncData} (F : FunD K "value_of" "value_of" (defArgs (top 42)) (defBody (top 42)) (defScope (top 42)) [] [] f fd) (T : Tp K mg)   : FnOk P w K mg base (CX0) 1 f fd ["grown", "digits"] (sp_value_of K) := by
  refine F.ok sc_value_of (fun vs H Q E h => by (obtain ⟨_, _, _, _, rfl, _⟩ := h; rfl)) (fun cdv A outer s H vs Q E hr h => ?_)
  obtain ⟨a, b, g, d, rfl, ha, hb, hgd, hg, k⟩ := h
  refine ⟨_, PSs.nox (pss_one (ps_ret (pe_callB (cr_sumNL rfl) (by rfl) T.sum (by decide +kernel) (pa_cons (pe_lc (own := [("growth", 2), ("digit", 3)]) (g := gTup K 2 (gCons (gName 2) (gCons (gName 3) gNil))) (tt := _) rfl sc_value_of.nd (pi_zipG (by rfl) T.zip (pa_cons (pv 0) (pa_cons (pv 1) pa_nil))) (blkOk_by (own := [("growth", 2), ("digit", 3)]) (N := ["grown", "digits", "growth", "digit"]) (sc := defScope (top 42)) (by decide +kernel)) (fun _ _ _ _ _ => (pg_tup rfl (pgs_cons (pg_name (i := 2) sc_value_of.nd rfl (Or.inl rfl) (Or.inr rfl)) (pgs_cons (pg_name (i := 3) sc_value_of.nd rfl (Or.inl rfl) (Or.inr rfl)) pgs_nil)))) (fun _ _ _ _ _ => pts_one (pt_cmpR op_eq (pv 3) pe_int (nomark _))) (fun _ _ _ _ _ => (pv 2))) pa_nil)))), ?_⟩
  refine ⟨_, rfl, _, rfl, a, b, _, _, rfl, ha, hb, fun D hD => ?_⟩
  refine lc_it (walk_zipG (xs := iV g) (ys := iV d) (by rw [iV_len, iV_len]; exact hgd)) (fun i H' => Evl.Ex H H' ∧ H' D = some (.lst (iV (ones (g.take i) (d.take i))))) ?_ (fun i H' _ h => ⟨Evl.ex_t h.1 ha, Evl.ex_t h.1 hb⟩) ?_ ?_
  · exact ⟨(Evl.Ex.refl H).mut hD, by rw [upd_same]; rfl⟩
  · rintro i v H1 H2 hi ⟨e1, h1⟩ ⟨T, x, y, rfl, hT, rfl, hx, hy⟩
    rw [iV_len] at hi
    have hi2 : i < d.length := by omega
    replace hx : (iV g)[i]? = some x := hx
    replace hy : (iV d)[i]? = some y := hy
    rw [iV_get, List.getElem?_eq_getElem hi] at hx
    rw [iV_get, List.getElem?_eq_getElem hi2] at hy
    cases hx
    cases hy
    have DT : D ≠ T := ne_of_none h1 hT
    have e2 := e1.trans (Evl.Ex.new (o := .tup [.int (g[i] : Nat), .int (d[i] : Nat)]) hT)
    have es := ones_app (g.take i) (d.take i) g[i] d[i] (by rw [List.length_take, List.length_take]; omega)
    rw [← take_succ' hi, ← take_succ' hi2] at es
    refine pair_go ⟨rfl, ?_⟩
    refine ⟨_, rfl, rfl, _, rfl, ?_⟩
    by_cases h : d[i] = 1
    · rw [if_pos h] at es
      refine ifT (decide_eq_true (by rw [h]; rfl)) ⟨_, rfl, _, by rw [upd_ne DT]; exact h1, Evl.sz_lt ?_, e2.mut hD, ?_⟩
      · have := ones_len (g.take i) (d.take i)
        rw [iV_len]
        rw [List.length_take] at this
        omega
      · rw [upd_same, es]
        simp [iV]
    · rw [if_neg h, List.append_nil] at es
      refine ifF (decide_eq_false (fun z => h ?_)) ⟨e2, by rw [upd_ne DT, es]; exact h1⟩
      injection z with z
      omega
  · rintro H1 ⟨e1, h1⟩
    rw [iV_len, List.take_of_length_le (Nat.le_refl _), List.take_of_length_le (by omega)] at h1
    refine ⟨_, _, rfl, SqL.of h1, ?_⟩
    rw [ones_sum]
    exact k H1 e1
theorem sc_block_of : FnScope ["presses", "cut", "place", "grown", "digits"] ["presses", "cut", "place"] (defScope (top 43)) := ⟨rfl, rfl, rfl, by decide +kernel, rfl, by decide +kernel, by decide +kernel⟩
def H_block_of (P : Program) (w : World) (K : PySem.W.Frag) (mg : Str → Option Value) (base : Heap) : Prop := Has P w K mg base (CX0) 5 "block_of" ["presses", "cut", "place"] (sp_block_of K)
theorem ok_block_of {f : Addr} {fd : FuncData} (F : FunD K "block_of" "block_of" (defArgs (top 43)) (defBody (top 43)) (defScope (top 43)) [] [] f fd) (T : Tp K mg)  (h_need_cut : H_need_cut P w K mg base) (h_growths : H_growths P w K mg base) (h_need_within : H_need_within P w K mg base) (h_digits_of : H_digits_of P w K mg base) (h_value_of : H_value_of P w K mg base) : FnOk P w K mg base (CX0) 5 f fd ["presses", "cut", "place"] (sp_block_of K) := by
  refine F.ok sc_block_of (fun vs H Q E h => by (obtain ⟨_, _, _, rfl, _⟩ := h; rfl)) (fun cdv A outer s H vs Q E hr h => ?_)
  obtain ⟨p, c, n, rfl, hp, hc, hn, k⟩ := h
  refine ⟨_, PSs.nox (pss_cons (ps_expr (pcall h_need_cut hr rfl (pa_cons (pv 0) (pa_cons (pv 1) pa_nil)))) (pss_cons (ps_set (i := 3) sc_block_of.nd rfl (Or.inl rfl) (pcall h_growths hr rfl (pa_cons (pv 0) pa_nil))) (pss_cons (ps_expr (pcall h_need_within hr rfl (pa_cons (pv 2) (pa_cons (pe_op op_sub (pe_callB (cr_sumN rfl) (by rfl) T.sum (by decide +kernel) (pa_cons (pv 3) pa_nil)) pe_int) pa_nil)))) (pss_cons (ps_set (i := 4) sc_block_of.nd rfl (Or.inl rfl) (pcall h_digits_of hr rfl (pa_cons (pv 3) (pa_cons (pv 2) pa_nil)))) (pss_one (ps_ret (pe_tup (pa_cons (pcall h_value_of hr rfl (pa_cons (pcall h_growths hr rfl (pa_cons (pe_slice sl_str (pv 0) (po_some (pv 1)) po_none) pa_nil)) (pa_cons (pe_slice sl_tupG (pv 4) (po_some (pv 1)) po_none) pa_nil))) (pa_cons (pcall h_value_of hr rfl (pa_cons (pe_slice sl_tupG (pv 3) po_none (po_some (pv 1))) (pa_cons (pe_slice sl_tupG (pv 4) po_none (po_some (pv 1))) pa_nil))) pa_nil))))))))), ?_⟩
  have hlen := hp.len
  refine ⟨_, rfl, _, rfl, _, _, rfl, hp, hc, fun H1 e1 => ?_⟩
  refine ⟨_, rfl, _, rfl, hp, fun a H2 ha e2 h2 => ?_⟩
  refine ⟨_, rfl, _, rfl, _, _, rfl, SqT.of h2, _, _, rfl, rfl, ?_⟩
  rw [gs_sum0]
  refine ⟨_, _, rfl, by omega, by omega, fun H3 e3 => ?_⟩
  refine ⟨_, rfl, _, rfl, _, _, _, rfl, SqT.of (e3 _ _ h2), by rw [gs_len]; exact hlen, fun b H4 hb e4 h4 => ?_⟩
  have h2' := e4 _ _ (e3 _ _ h2)
  have e04 := ((e1.trans e2).trans e3).trans e4
  refine ⟨_, rfl, _, rfl, _, rfl, _, rfl, Evl.sz_of (by rw [tx_len]; omega), ?_⟩
  rw [cutS_lo _ _ hc]
  refine ⟨_, rfl, hp.drop c, fun a2 H5 ha2 e5 h5 => ⟨_, rfl, _, rfl, _, rfl, _, _, rfl, SqT.of (e5 _ _ h4), fun q H6 e6 sq => ?_⟩⟩
  rw [cutV_lo _ _ (by rw [iV_len, digs_len, gs_len]; omega), iV_drop] at sq
  refine ⟨_, _, _, _, rfl, SqT.of (e6 _ _ h5), sq, by rw [gs_len, List.length_drop, List.length_drop, digs_len, gs_len], by rw [gs_len, List.length_drop]; omega, fun H7 e7 => ?_⟩
  refine ⟨_, rfl, _, rfl, _, rfl, _, _, rfl, SqT.of (e7 _ _ (e6 _ _ (e5 _ _ h2'))), fun q2 H8 e8 sq2 => ⟨_, rfl, _, rfl, _, rfl, _, _, rfl, SqT.of (e8 _ _ (e7 _ _ (e6 _ _ (e5 _ _ h4)))), fun q3 H9 e9 sq3 => ?_⟩⟩
  rw [cutV_hi, iV_take, gs_take p c hc] at sq2
  rw [cutV_hi, iV_take] at sq3
  refine ⟨_, _, _, _, rfl, Evl.ex_t e9 sq2, sq3, by rw [gs_len, List.length_take, List.length_take, digs_len, gs_len], by rw [gs_len, List.length_take]; omega, fun H10 e10 => ?_⟩
  refine ⟨by show 2 ≤ sizeLine; decide, fun t ht => ?_⟩
  have eE := ((((e5.trans e6).trans e7).trans e8).trans e9).trans e10
  exact k t _ (Evl.fresh_back (e04.trans eE) ht) ((e04.trans eE).trans (Evl.Ex.new ht)) upd_same
theorem sc_block_start : FnScope ["presses", "cut", "number", "own"] ["presses", "cut", "number"] (defScope (top 44)) := ⟨rfl, rfl, rfl, by decide +kernel, rfl, by decide +kernel, by decide +kernel⟩
def H_block_start (P : Program) (w : World) (K : PySem.W.Frag) (mg : Str → Option Value) (base : Heap) : Prop := Has P w K mg base (CX0) 5 "block_start" ["presses", "cut", "number"] (sp_block_start K)
theorem ok_block_start {f : Addr} {fd : FuncData} (F : FunD K "block_start" "block_start" (defArgs (top 44)) (defBody (top 44)) (defScope (top 44)) [] [] f fd) (T : Tp K mg)  (h_need_cut : H_need_cut P w K mg base) (h_growths : H_growths P w K mg base) (h_need_within : H_need_within P w K mg base) (h_value_of : H_value_of P w K mg base) (h_digits_of : H_digits_of P w K mg base) : FnOk P w K mg base (CX0) 5 f fd ["presses", "cut", "number"] (sp_block_start K) := by
  refine F.ok sc_block_start (fun vs H Q E h => by (obtain ⟨_, _, _, rfl, _⟩ := h; rfl)) (fun cdv A outer s H vs Q E hr h => ?_)
  obtain ⟨p, c, n, rfl, hp, hc, hn, k⟩ := h
  refine ⟨_, PSs.nox (pss_cons (ps_expr (pcall h_need_cut hr rfl (pa_cons (pv 0) (pa_cons (pv 1) pa_nil)))) (pss_cons (ps_set (i := 3) sc_block_start.nd rfl (Or.inl rfl) (pcall h_growths hr rfl (pa_cons (pe_slice sl_str (pv 0) (po_some (pv 1)) po_none) pa_nil))) (pss_cons (ps_expr (pcall h_need_within hr rfl (pa_cons (pv 2) (pa_cons (pe_callB (cr_sumN rfl) (by rfl) T.sum (by decide +kernel) (pa_cons (pv 3) pa_nil)) pa_nil)))) (pss_one (ps_ret (pcall h_value_of hr rfl (pa_cons (pe_slice sl_tupG (pcall h_growths hr rfl (pa_cons (pv 0) pa_nil)) (po_some (pv 1)) po_none) (pa_cons (pcall h_digits_of hr rfl (pa_cons (pv 3) (pa_cons (pv 2) pa_nil))) pa_nil)))))))), ?_⟩
  have hlen := hp.len
  refine ⟨_, rfl, _, rfl, _, _, rfl, hp, hc, fun H1 e1 => ?_⟩
  refine ⟨_, rfl, _, rfl, _, rfl, _, rfl, Evl.sz_of (by rw [tx_len]; omega), ?_⟩
  rw [cutS_lo _ _ hc]
  refine ⟨_, rfl, hp.drop c, fun a H2 ha e2 h2 => ?_⟩
  refine ⟨_, rfl, _, rfl, _, _, rfl, SqT.of h2, ?_⟩
  rw [gs_sum0]
  refine ⟨_, _, rfl, by omega, by omega, fun H3 e3 => ?_⟩
  refine ⟨_, rfl, _, rfl, hp, fun b H4 hb e4 h4 => ⟨_, rfl, _, rfl, _, _, rfl, SqT.of h4, fun q H5 e5 sq => ?_⟩⟩
  rw [cutV_lo _ _ (by rw [iV_len, gs_len]; omega), iV_drop, gs_drop p c hc] at sq
  refine ⟨_, rfl, _, rfl, _, _, _, rfl, SqT.of (e5 _ _ (e4 _ _ (e3 _ _ h2))), by rw [gs_len, List.length_drop]; omega, fun q2 H6 hq2 e6 h6 => ?_⟩
  refine ⟨_, _, _, _, rfl, Evl.ex_t e6 sq, SqT.of h6, by rw [gs_len, digs_len, gs_len], by rw [gs_len, List.length_drop]; omega, fun H7 e7 => ?_⟩
  rw [block_start (p.take c) (p.drop c) n hn]
  exact k H7 ((((((e1.trans e2).trans e3).trans e4).trans e5).trans e6).trans e7)
end
end Mw
end
section
set_option Elab.async false
set_option linter.all false
set_option maxRecDepth 100000
set_option maxHeartbeats 4000000
/-! pieces: Copies -/
namespace Mw
open PySem PySem.Spec PyProof.Rows L2 Mir Mr
/-- all but what stands at c is kept -/
def Kp (c : Addr) (H H' : Hp) : Prop := ∀ b o, H b = some o → b ≠ c → H' b = some o
theorem Kp.refl (c : Addr) (H : Hp) : Kp c H H := fun _ _ h _ => h
theorem Kp.of {c : Addr} {H H' : Hp} (e : Evl.Ex H H') : Kp c H H' := fun b o h _ => e b o h
theorem Kp.ex {c : Addr} {H H1 H2 : Hp} (a : Kp c H H1) (e : Evl.Ex H1 H2) : Kp c H H2 := fun b o h n => e b o (a b o h n)
theorem Kp.trans {c : Addr} {H H1 H2 : Hp} (a : Kp c H H1) (e : Kp c H1 H2) : Kp c H H2 := fun b o h n => e b o (a b o h n) n
theorem Kp.at {c : Addr} {H H1 : Hp} {o : HO} (a : Kp c H H1) : Kp c H (upd H1 c o) := fun b u h n => by rw [upd_ne n]; exact a b u h n
theorem Kp.mut {c p : Addr} {H H1 : Hp} {o : HO} (a : Kp c H H1) (hp : H p = none) : Kp c H (upd H1 p o) := fun b u h n => by
  rw [upd_ne (ne_of_none h hp)]
  exact a b u h n
theorem cutS_lo' (w : Wd) (a : Nat) : cutS (tx w) (some (a : Int)) none = tx (w.drop a) := by
  by_cases h : a ≤ w.length
  · exact cutS_lo w a h
  · unfold cutS tx
    show (⟨((w.drop (HT.sIx w.toArray.size 0 (some (a : Int)))).take (w.toArray.size - HT.sIx w.toArray.size 0 (some (a : Int)))).toArray⟩ : Str) = _
    rw [HT.sIx_nat, List.size_toArray, Nat.min_eq_right (by omega), List.drop_of_length_le (Nat.le_refl _), List.drop_of_length_le (by omega), List.take_nil]
section
variable {X : Cx} {lv k : Nat} {C : Str} {sp : Sp}
theorem plen (h : HasM X.prog X.w X.K X.mg X.base CX0 lv C "__len__" ["self"] sp) (hr : Room k X.A) (hl : lv + 1 ≤ k := by decide) : CallR X (.builtin "len") (rLenO (He.ga X.K C) sp E0) := by
  obtain ⟨c, f, fd, F, hm, hb⟩ := h
  exact call_lenO hm F (hr.mono hl) hb pass0
end
theorem putF_len (f : Str) (v : V) : ∀ fs : List (Str × V), (putF f v fs).length ≤ fs.length + 1
  | [] => Nat.le_refl _
  | (g, x) :: r => by
    show (if g = f then (g, v) :: r else (g, x) :: putF f v r).length ≤ r.length + 1 + 1
    have := putF_len f v r
    split
    · simp
    · simp; omega
/-- a Copies' attributes -/
def cpF (p : Wd) (a b : Addr) : List (Str × V) := putF "copy_shared" (.ref b) (putF "copy_lengths" (.ref a) (putF "copy_presses" (.str (tx p)) []))
theorem n12 : ¬ (("copy_presses" : Str) = "copy_lengths") := by decide +kernel
theorem n13 : ¬ (("copy_presses" : Str) = "copy_shared") := by decide +kernel
theorem n23 : ¬ (("copy_lengths" : Str) = "copy_shared") := by decide +kernel
theorem cpF_1 (p : Wd) (a b : Addr) : (cpF p a b).lookup ("copy_presses" : Str) = some (.str (tx p)) := by
  unfold cpF
  rw [lookup_putF, if_neg n13, lookup_putF, if_neg n12, lookup_putF, if_pos rfl]
theorem cpF_2 (p : Wd) (a b : Addr) : (cpF p a b).lookup ("copy_lengths" : Str) = some (.ref a) := by
  unfold cpF
  rw [lookup_putF, if_neg n23, lookup_putF, if_pos rfl]
theorem cpF_3 (p : Wd) (a b : Addr) : (cpF p a b).lookup ("copy_shared" : Str) = some (.ref b) := by
  unfold cpF
  rw [lookup_putF, if_pos rfl]
theorem cpF_no (p : Wd) (a b : Addr) {m : Str} (h1 : ¬ m = "copy_presses") (h2 : ¬ m = "copy_lengths") (h3 : ¬ m = "copy_shared") : (cpF p a b).lookup m = none := by
  unfold cpF
  rw [lookup_putF, if_neg h3, lookup_putF, if_neg h2, lookup_putF, if_neg h1]
  rfl
/-- a Copies of p stands at c -/
def CopAt (K : Frag) (H : Hp) (c : Addr) (p : Wd) : Prop := ∃ dx a b, H c = some (.ins (cCop K) dx (cpF p a b)) ∧ H a = some (.lst (iV (lens p))) ∧ H b = some (.lst (shrV p p.length))
theorem CopAt.ex {K : Frag} {H H' : Hp} {c : Addr} {p : Wd} (h : CopAt K H c p) (e : Evl.Ex H H') : CopAt K H' c p := by
  obtain ⟨dx, a, b, h1, h2, h3⟩ := h
  exact ⟨dx, a, b, e _ _ h1, e _ _ h2, e _ _ h3⟩
def sp_Copies___init__ (K : Frag) : Sp := fun vs H Q _ => ∃ (c dx : Addr) (p : Wd), vs = [.ref c, .str (tx p)] ∧ H c = some (.ins (cCop K) dx []) ∧ PrOk p ∧ ∀ H', CopAt K H' c p → Kp c H H' → Q .non H'
def sp_Copies___len__ (K : Frag) : Sp := fun vs H Q _ => ∃ (c : Addr) (p : Wd), vs = [.ref c] ∧ CopAt K H c p ∧ p.length ≤ 200 ∧ RetV (.int (p.length : Nat)) H Q
def sp_Copies_size (K : Frag) : Sp := fun vs H Q _ => ∃ (c : Addr) (p : Wd) (m : Nat), vs = [.ref c, .int m] ∧ CopAt K H c p ∧ m ≤ p.length ∧ RetV (.int (L (p.take m) : Nat)) H Q
def sp_Copies_head (K : Frag) : Sp := fun vs H Q _ => ∃ (c : Addr) (p : Wd) (m : Nat), vs = [.ref c, .int m] ∧ CopAt K H c p ∧ p.length ≤ 200 ∧ m ≤ 1000 ∧ RetV (.str (tx ((M p).take m))) H Q
def sp_Copies_midst (K : Frag) : Sp := fun vs H Q _ => ∃ (c : Addr) (p : Wd) (m r : Nat), vs = [.ref c, .int m, .str (tx ((M p).take r)), .int r] ∧ CopAt K H c p ∧ p.length ≤ 200 ∧ r ≤ 1000 ∧
  ∃ h : m < p.length, RetT [.str (tx (mid (p.take m) p[m] r)), .int ((L (p.take m) - min (L (p.take m)) r : Nat) : Int)] H Q
section
variable {P : Program} {w : World} {K : Frag} {mg : Str → Option Value} {base : Heap}
theorem sc_Copies___init__ : FnScope ["self", "presses", "many", "letter", "at", "whole", "shared"] ["self", "presses"] (defScope (inClass (top 47) 0)) := ⟨rfl, rfl, rfl, by decide +kernel, rfl, by decide +kernel, by decide +kernel⟩
def H_Copies___init__ (P : Program) (w : World) (K : PySem.W.Frag) (mg : Str → Option Value) (base : Heap) : Prop := HasC P w K mg base (CX0) 4 "Copies" ["self", "presses"] (sp_Copies___init__ K)
theorem ok_Copies___init__ {f : Addr} {fd : FuncData} (F : FunD K "__init__" "Copies.__init__" (defArgs (inClass (top 47) 0)) (defBody (inClass (top 47) 0)) (defScope (inClass (top 47) 0)) [] [] f fd) (T : Tp K mg)  (h_need_presses : H_need_presses P w K mg base) : FnOk P w K mg base (CX0) 4 f fd ["self", "presses"] (sp_Copies___init__ K) := by
  refine F.ok sc_Copies___init__ (fun vs H Q E h => by (obtain ⟨_, _, _, rfl, _⟩ := h; rfl)) (fun cdv A outer s H vs Q E hr h => ?_)
  obtain ⟨c, dx, p, rfl, hc, hp, k⟩ := h
  refine ⟨_, PSs.nox (pss_cons (ps_expr (pcall h_need_presses hr rfl (pa_cons (pv 1) pa_nil))) (pss_cons (ps_fld (pv 0) (pv 1) rfl) (pss_cons (ps_fld (pv 0) (pe_lst (pa_cons pe_int pa_nil)) rfl) (pss_cons (ps_fld (pv 0) (pe_lst pa_nil) rfl) (pss_one (ps_for PassesOwn.never rfl (pi_enumS (by rfl) T.enumerate (pa_cons (pv 1) pa_nil)) (pg_tup rfl (pgs_cons (pg_name (i := 2) sc_Copies___init__.nd rfl (Or.inl rfl)) (pgs_cons (pg_name (i := 3) sc_Copies___init__.nd rfl (Or.inl rfl)) pgs_nil))) (pss_cons (ps_par (i := 4) (j := 5) (by rfl) sc_Copies___init__.nd rfl rfl (by decide) rfl rfl (pa_cons (pe_bm PySem.F.plainAttrs_str PySem.F.slot_str_rfind PySem.F.type_str_rfind mt_rfind4 (pv 1) (pa_cons (pv 3) (pa_cons pe_int (pa_cons (pv 2) pa_nil)))) (pa_cons (pe_ix ix_list (pe_fld (pv 0) rfl) (pe_un un_neg pe_int) (fun _ _ => rfl)) pa_nil)) (by rfl)) (pss_cons (ps_set (i := 6) sc_Copies___init__.nd rfl (Or.inl rfl) (pe_ifExp (pt_cmpR op_lt (pv 4) pe_int (nomark _)) pe_non (pe_ix ix_list (pe_fld (pv 0) rfl) (pv 4) (fun _ _ => rfl)))) (pss_cons (ps_expr (pe_bm PySem.F.plainAttrs_list PySem.F.slot_list_append PySem.F.type_list_append mt_append (pe_fld (pv 0) rfl) (pa_cons (pv 6) pa_nil))) (pss_one (ps_expr (pe_bm PySem.F.plainAttrs_list PySem.F.slot_list_append PySem.F.type_list_append mt_append (pe_fld (pv 0) rfl) (pa_cons (pe_ifExp (pt_cmpR op_isN (pv 6) pe_non (nomark _)) (pe_op op_add (pe_op op_mul pe_int (pv 5)) pe_int) (pe_op op_sub (pe_op op_mul pe_int (pv 5)) (pv 6))) pa_nil))))))))))))), ?_⟩
  have hlen := hp.len
  refine ⟨_, rfl, _, rfl, hp, fun H1 e1 => ?_⟩
  have hc1 := e1 _ _ hc
  refine ⟨_, rfl, _, rfl, c, _, dx, _, rfl, hc1, T.clCop, T.naCop1, (by show 0 < 1000; decide), ?_⟩
  refine ⟨by show 1 ≤ sizeLine; decide, fun a ha => ?_⟩
  have ca : c ≠ a := fun z => by rw [← z, upd_same] at ha; cases ha
  have haH1 : H1 a = none := by rwa [upd_ne (Ne.symm ca)] at ha
  have haH : H a = none := Evl.fresh_back e1 haH1
  refine ⟨_, rfl, c, _, dx, _, rfl, (by rw [upd_ne ca]; exact upd_same), T.clCop, T.naCop2, (by show 1 < 1000; decide), ?_⟩
  refine ⟨by show 0 ≤ sizeLine; decide, fun b hb => ?_⟩
  have cb : c ≠ b := fun z => by rw [← z, upd_same] at hb; cases hb
  rw [upd_ne (Ne.symm cb)] at hb
  have ab : a ≠ b := fun z => by rw [← z, upd_same] at hb; cases hb
  rw [upd_ne (Ne.symm ab), upd_ne (Ne.symm cb)] at hb
  have hbH : H b = none := Evl.fresh_back e1 hb
  refine ⟨_, rfl, c, _, dx, _, rfl, (by rw [upd_ne cb]; exact upd_same), T.clCop, T.naCop3, (Nat.lt_of_le_of_lt (putF_len _ _ _) (Nat.lt_of_le_of_lt (Nat.succ_le_succ (putF_len _ _ _)) (by show 2 < 1000; decide))), ?_⟩
  refine ⟨_, rfl, _, rfl, for_it walk_enumS (fun i σ H' => Kp c H H' ∧ H' c = some (.ins (cCop K) dx (cpF p a b)) ∧ H' a = some (.lst (iV ((List.range (i + 1)).map fun j => L (p.take j)))) ∧ H' b = some (.lst (shrV p i)) ∧
    ∃ x1 x2 x3 x4 x5, σ = [some (.ref c), some (.str (tx p)), x1, x2, x3, x4, x5]) ?_ (fun _ _ _ _ _ => trivial) ?_ ?_⟩
  · refine ⟨(((((Kp.of e1).at).mut haH).at).mut hbH).at, upd_same, ?_, ?_, none, none, none, none, none, rfl⟩
    · rw [upd_ne (Ne.symm ca), upd_ne ab, upd_ne (Ne.symm ca), upd_same]; rfl
    · rw [upd_ne (Ne.symm cb), upd_same]; rfl
  · rintro i v σ H2 H3 hi ⟨e2, h1, h2, h3, x1, x2, x3, x4, x5, rfl⟩ ⟨T', x, y, rfl, hT, rfl, hx, hy⟩
    cases hx
    obtain ⟨hi', rfl⟩ := str_turn hy
    refine pair_go ?_
    have cT : c ≠ T' := ne_of_none h1 hT
    have aT : a ≠ T' := ne_of_none h2 hT
    have bT : b ≠ T' := ne_of_none h3 hT
    have e3 := e2.ex (Evl.Ex.new (o := .tup [.int (i : Nat), .str (tx [p[i]])]) hT)
    have g1 : upd H2 T' (.tup [.int (i : Nat), .str (tx [p[i]])]) c = _ := (upd_ne cT).trans h1
    have g2 : upd H2 T' (.tup [.int (i : Nat), .str (tx [p[i]])]) a = _ := (upd_ne aT).trans h2
    have g3 : upd H2 T' (.tup [.int (i : Nat), .str (tx [p[i]])]) b = _ := (upd_ne bT).trans h3
    generalize upd H2 T' (.tup [.int (i : Nat), .str (tx [p[i]])]) = H4 at *
    have eL : (iV ((List.range (i + 1)).map fun j => L (p.take j))) = iV ((List.range i).map fun j => L (p.take j)) ++ [.int (L (p.take i) : Nat)] := by
      rw [List.range_succ, List.map_append]; simp [iV]
    refine ⟨_, rfl, rfl, _, rfl, _, rfl, _, _, _, _, rfl, rfl, _, rfl, c, _, _, _, _, rfl, g1, T.clCop, T.naCop2, cpF_2 _ _ _, _, rfl, _, _, _, _, rfl, rfl, SqL.of g2, atI_neg1 eL, _, _, rfl, ?_⟩
    rw [rfind_in p p[i] i (Nat.le_of_lt hi')]
    have eS := L_step (p.take i) p[i]
    rw [← take_succ' hi'] at eS
    have hsz1 : (shrV p i).length < sizeLine := Evl.sz_lt (by rw [shrV_len]; omega)
    have hsz2 : (iV ((List.range (i + 1)).map fun j => L (p.take j))).length < sizeLine := Evl.sz_lt (by rw [iV_len]; simp; omega)
    have fin : ∀ (z : Int) (s5 : V), z = (L (p.take (i + 1)) : Nat) → s5 = oV ((lastIx (p.take i) p[i]).map fun j => L (p.take j)) →
        Kp c H (upd (upd H4 b (.lst (shrV p i ++ [s5]))) a (.lst (iV ((List.range (i + 1)).map fun j => L (p.take j)) ++ [.int z]))) ∧
        upd (upd H4 b (.lst (shrV p i ++ [s5]))) a (.lst (iV ((List.range (i + 1)).map fun j => L (p.take j)) ++ [.int z])) c = some (.ins (cCop K) dx (cpF p a b)) ∧
        upd (upd H4 b (.lst (shrV p i ++ [s5]))) a (.lst (iV ((List.range (i + 1)).map fun j => L (p.take j)) ++ [.int z])) a = some (.lst (iV ((List.range (i + 1 + 1)).map fun j => L (p.take j)))) ∧
        upd (upd H4 b (.lst (shrV p i ++ [s5]))) a (.lst (iV ((List.range (i + 1)).map fun j => L (p.take j)) ++ [.int z])) b = some (.lst (shrV p (i + 1))) := by
      rintro z s5 rfl rfl
      refine ⟨(e3.mut hbH).mut haH, by rw [upd_ne ca, upd_ne cb]; exact g1, ?_, ?_⟩
      · rw [upd_same, List.range_succ (n := i + 1), List.map_append]; simp [iV]
      · rw [upd_ne (Ne.symm ab), upd_same, shrV_succ p i hi']
    cases e : lastIx (p.take i) p[i] with
    | none =>
      rw [e] at eS fin
      replace eS : L (p.take (i + 1)) = 2 * L (p.take i) + 1 := eS
      refine ⟨_, rfl, _, _, rfl, rfl, _, rfl, ifT (decide_eq_true (by show (-1 : Int) < 0; decide)) ?_⟩
      refine ⟨_, rfl, c, _, _, _, _, rfl, g1, T.clCop, T.naCop3, cpF_3 _ _ _, .inl ⟨rfl, _, SqL.of g3⟩, _, rfl, b, _, _, rfl, rfl, g3, hsz1, ?_⟩
      refine ⟨_, rfl, c, _, _, _, _, rfl, (by rw [upd_ne cb]; exact g1), T.clCop, T.naCop2, cpF_2 _ _ _, .inl ⟨rfl, _, SqL.of (by rw [upd_ne ab]; exact g2)⟩, _, rfl, rfl, _, rfl, iteT ?_⟩
      refine ⟨_, rfl, _, _, rfl, rfl, .inl (by decide), _, _, rfl, rfl, a, _, _, rfl, rfl, (by rw [upd_ne ab]; exact g2), hsz2, ?_⟩
      obtain ⟨f1, f2, f3, f4⟩ := fin (2 * (L (p.take i) : Int) + 1) .non (by rw [eS]; omega) rfl
      exact ⟨f1, f2, f3, f4, _, _, _, _, _, rfl⟩
    | some j =>
      rw [e] at eS fin
      replace eS : L (p.take (i + 1)) = 2 * L (p.take i) - L ((p.take i).take j) := eS
      obtain ⟨j1, _, _⟩ := lastIx_some _ _ _ e
      rw [List.length_take] at j1
      have hj : j < i := by omega
      have hle : L ((p.take i).take j) ≤ L (p.take i) := L_step_le _ _ _ e
      have ej : (p.take i).take j = p.take j := by rw [List.take_take, Nat.min_eq_left (by omega)]
      have getj : (iV ((List.range (i + 1)).map fun j => L (p.take j)))[j]? = some (.int (L (p.take j) : Nat)) := by
        have hj' : j < i + 1 := by omega
        rw [iV_get]; simp [hj']
      rw [ej] at eS hle
      refine ⟨_, rfl, _, _, rfl, rfl, _, rfl, ifF (decide_eq_false (by show ¬ ((j : Nat) : Int) < 0; omega)) ?_⟩
      refine ⟨_, rfl, c, _, _, _, _, rfl, g1, T.clCop, T.naCop2, cpF_2 _ _ _, _, rfl, _, _, _, _, rfl, rfl, SqL.of g2, atI_nat getj, ?_⟩
      refine ⟨_, rfl, c, _, _, _, _, rfl, g1, T.clCop, T.naCop3, cpF_3 _ _ _, .inl ⟨rfl, _, SqL.of g3⟩, _, rfl, b, _, _, rfl, rfl, g3, hsz1, ?_⟩
      refine ⟨_, rfl, c, _, _, _, _, rfl, (by rw [upd_ne cb]; exact g1), T.clCop, T.naCop2, cpF_2 _ _ _, .inl ⟨rfl, _, SqL.of (by rw [upd_ne ab]; exact g2)⟩, _, rfl, rfl, _, rfl, iteF ?_⟩
      refine ⟨_, rfl, _, _, rfl, rfl, .inl (by decide), _, rfl, _, _, rfl, rfl, a, _, _, rfl, rfl, (by rw [upd_ne ab]; exact g2), hsz2, ?_⟩
      obtain ⟨f1, f2, f3, f4⟩ := fin (2 * (L (p.take i) : Int) - (L (p.take j) : Int)) (.int (L (p.take j) : Nat)) (by rw [eS]; omega) rfl
      exact ⟨f1, f2, f3, f4, _, _, _, _, _, rfl⟩
  · rintro σ H2 ⟨e2, h1, h2, h3, x1, x2, x3, x4, x5, rfl⟩
    rw [tx_size] at h2 h3
    exact k H2 ⟨dx, a, b, h1, h2, h3⟩ e2
theorem sc_Copies___len__ : FnScope ["self"] ["self"] (defScope (inClass (top 47) 1)) := ⟨rfl, rfl, rfl, by decide +kernel, rfl, by decide +kernel, by decide +kernel⟩
def H_Copies___len__ (P : Program) (w : World) (K : PySem.W.Frag) (mg : Str → Option Value) (base : Heap) : Prop := HasM P w K mg base (CX0) 1 "Copies" "__len__" ["self"] (sp_Copies___len__ K)
theorem ok_Copies___len__ {f : Addr} {fd : FuncData} (F : FunD K "__len__" "Copies.__len__" (defArgs (inClass (top 47) 1)) (defBody (inClass (top 47) 1)) (defScope (inClass (top 47) 1)) [] [] f fd) (T : Tp K mg)   : FnOk P w K mg base (CX0) 1 f fd ["self"] (sp_Copies___len__ K) := by
  refine F.ok sc_Copies___len__ (fun vs H Q E h => by (obtain ⟨_, _, rfl, _⟩ := h; rfl)) (fun cdv A outer s H vs Q E hr h => ?_)
  obtain ⟨c, p, rfl, ⟨dx, a, b, h1, h2, h3⟩, hl, k⟩ := h
  refine ⟨_, PSs.nox (pss_one (ps_ret (pe_callB call_len_str (by rfl) T.len PySem.boot_len (pa_cons (pe_fld (pv 0) rfl) pa_nil)))), ?_⟩
  refine ⟨_, rfl, c, _, _, _, _, rfl, h1, T.clCop, T.naCop1, cpF_1 _ _ _, _, rfl, Evl.sz_of (by rw [tx_len]; omega), ?_⟩
  have e : V.int ((tx p).length : Nat) = V.int (p.length : Nat) := by rw [tx_len]
  show Q (V.int ((tx p).length : Nat)) H
  rw [e]
  exact k H (Evl.Ex.refl H)
theorem sc_Copies_size : FnScope ["self", "many"] ["self", "many"] (defScope (inClass (top 47) 2)) := ⟨rfl, rfl, rfl, by decide +kernel, rfl, by decide +kernel, by decide +kernel⟩
def H_Copies_size (P : Program) (w : World) (K : PySem.W.Frag) (mg : Str → Option Value) (base : Heap) : Prop := HasM P w K mg base (CX0) 1 "Copies" "size" ["self", "many"] (sp_Copies_size K)
theorem ok_Copies_size {f : Addr} {fd : FuncData} (F : FunD K "size" "Copies.size" (defArgs (inClass (top 47) 2)) (defBody (inClass (top 47) 2)) (defScope (inClass (top 47) 2)) [] [] f fd) (T : Tp K mg)   : FnOk P w K mg base (CX0) 1 f fd ["self", "many"] (sp_Copies_size K) := by
  refine F.ok sc_Copies_size (fun vs H Q E h => by (obtain ⟨_, _, _, rfl, _⟩ := h; rfl)) (fun cdv A outer s H vs Q E hr h => ?_)
  obtain ⟨c, p, m, rfl, ⟨dx, a, b, h1, h2, h3⟩, hm, k⟩ := h
  refine ⟨_, PSs.nox (pss_one (ps_ret (pe_ix ix_list (pe_fld (pv 0) rfl) (pv 1) (fun _ _ => rfl)))), ?_⟩
  exact ⟨_, rfl, c, _, _, _, _, rfl, h1, T.clCop, T.naCop2, cpF_2 _ _ _, _, rfl, _, _, _, _, rfl, rfl, SqL.of h2, atI_nat (lensV_get p m hm), k H (Evl.Ex.refl H)⟩
end
end Mw
end
section
set_option Elab.async false
set_option linter.all false
set_option maxRecDepth 100000
set_option maxHeartbeats 4000000
/-! pieces: head, midst, need_piece, found_home, home, how_often, place_at, stand_ahead -/
namespace Mw
open PySem PySem.Spec PyProof.Rows L2 Mir Mr
theorem M_take_take (p : Wd) (i m : Nat) (h : m ≤ L (p.take i)) : (M p).take m = (M (p.take i)).take m := by
  obtain ⟨r, e⟩ := M_pre (p.take i) (p.drop i)
  rw [List.take_append_drop] at e
  rw [← e, List.take_append_of_le_length h]
theorem M_take_min (p : Wd) (i r : Nat) : ((M p).take r).take (min (L (p.take i)) r) = (M (p.take i)).take r := by
  rw [List.take_take, M_take_take p i _ (by omega)]
  rw [List.take_eq_take_iff]
  unfold L
  omega
def sp_need_piece (K : Frag) : Sp := fun vs H Q _ => ∃ z : Wd, vs = [.str (tx z)] ∧ Good z ∧ z.length ≤ 200 ∧ RetV .non H Q
def sp_found_home (K : Frag) : Sp := fun vs H Q _ => ∃ (c : Addr) (p z : Wd), vs = [.ref c, .str (tx z)] ∧ CopAt K H c p ∧ PrOk p ∧ z.length ≤ 200 ∧ (∃ j, Occ z (M p) j) ∧ ∀ m A, Home p z m A → RetT [.int (m : Nat), .int (A : Nat)] H Q
def sp_home (K : Frag) : Sp := fun vs H Q _ => ∃ (p z : Wd), vs = [.str (tx p), .str (tx z)] ∧ PrOk p ∧ Good z ∧ z.length ≤ 200 ∧ (∃ j, Occ z (M p) j) ∧ ∀ m A, Home p z m A → RetT [.int (m : Nat), .int (A : Nat)] H Q
def sp_how_often (K : Frag) : Sp := fun vs H Q _ => ∃ (p z : Wd), vs = [.str (tx p), .str (tx z)] ∧ PrOk p ∧ Good z ∧ z.length ≤ 200 ∧ (∃ j, Occ z (M p) j) ∧ RetV (.int ((occs p z).length : Nat)) H Q
def sp_place_at (K : Frag) : Sp := fun vs H Q _ => ∃ (p z : Wd) (n o : Nat), vs = [.str (tx p), .str (tx z), .int n] ∧ PrOk p ∧ Good z ∧ z.length ≤ 200 ∧ (occs p z)[n]? = some o ∧ RetV (.int (o : Nat)) H Q
def sp_stand_ahead (K : Frag) : Sp := fun vs H Q _ => ∃ (p z : Wd) (n : Nat), vs = [.str (tx p), .str (tx z), .int n] ∧ PrOk p ∧ Good z ∧ z.length ≤ 200 ∧ (∃ j, Occ z (M p) j) ∧ n ≤ L p + 1 ∧ RetV (.int (cnt (occs p z) n : Nat)) H Q
section
variable {P : Program} {w : World} {K : Frag} {mg : Str → Option Value} {base : Heap}
theorem sc_Copies_head : FnScope ["self", "many", "found", "letter", "shared"] ["self", "many"] (defScope (inClass (top 47) 5)) := ⟨rfl, rfl, rfl, by decide +kernel, rfl, by decide +kernel, by decide +kernel⟩
def H_Copies_head (P : Program) (w : World) (K : PySem.W.Frag) (mg : Str → Option Value) (base : Heap) : Prop := HasM P w K mg base (CX0) 1 "Copies" "head" ["self", "many"] (sp_Copies_head K)
theorem ok_Copies_head {f : Addr} {fd : FuncData} (F : FunD K "head" "Copies.head" (defArgs (inClass (top 47) 5)) (defBody (inClass (top 47) 5)) (defScope (inClass (top 47) 5)) [] [] f fd) (T : Tp K mg)   : FnOk P w K mg base (CX0) 1 f fd ["self", "many"] (sp_Copies_head K) := by
  refine F.ok sc_Copies_head (fun vs H Q E h => by (obtain ⟨_, _, _, rfl, _⟩ := h; rfl)) (fun cdv A outer s H vs Q E hr h => ?_)
  obtain ⟨c, p, m, rfl, hc, hl, hm, k⟩ := h
  refine ⟨_, PSs.nox (pss_cons (ps_set (i := 2) sc_Copies_head.nd rfl (Or.inl rfl) pe_str) (pss_cons (ps_for PassesOwn.never rfl (pi_zipS (by rfl) T.zip (pa_cons (pe_fld (pv 0) rfl) (pa_cons (pe_fld (pv 0) rfl) pa_nil))) (pg_tup rfl (pgs_cons (pg_name (i := 3) sc_Copies_head.nd rfl (Or.inl rfl)) (pgs_cons (pg_name (i := 4) sc_Copies_head.nd rfl (Or.inl rfl)) pgs_nil))) (pss_cons (ps_if (pt_cmpR op_ge (pe_callB call_len_str (by rfl) T.len PySem.boot_len (pa_cons (pv 2) pa_nil)) (pv 1) (nomark _)) (pss_one ps_break) pss_nil) (pss_one (ps_aug (i := 2) sc_Copies_head.nd rfl (Or.inl rfl) (pe_ifExp (pt_cmpR op_isN (pv 4) pe_non (nomark _)) (pe_op op_add_str (pv 3) (pv 2)) (pe_slice sl_str (pv 2) (po_some (pv 4)) po_none)) iop_add_str)))) (pss_one (ps_ret (pe_slice sl_str (pv 2) po_none (po_some (pv 1))))))), ?_⟩
  obtain ⟨dx, a, b, h1, h2, h3⟩ := hc
  refine ⟨_, rfl, c, _, _, _, _, rfl, h1, T.clCop, T.naCop1, cpF_1 _ _ _, _, rfl, c, _, _, _, _, rfl, h1, T.clCop, T.naCop3, cpF_3 _ _ _, _, _, _, rfl, SqL.of h3, ?_⟩
  refine for_it (walk_zipS (by rw [tx_size, shrV_len])) (fun i σ H' => Evl.Ex H H' ∧ L (p.take i) ≤ 2001 ∧ ∃ x1 x2, σ = [some (.ref c), some (.int (m : Nat)), some (.str (tx (M (p.take i)))), x1, x2]) ?_ (fun _ _ _ _ h => SqL.of (h.1 _ _ h3)) ?_ ?_
  · exact ⟨Evl.Ex.refl H, Nat.zero_le _, none, none, by rw [List.take_zero]; show _ = _; rw [show tx (M []) = ("" : Str) from tx_nil]; rfl⟩
  · rintro i v σ H1 H2 hi ⟨e1, hsz, x1, x2, rfl⟩ ⟨T', x, y, rfl, hT, rfl, hx, hy⟩
    obtain ⟨hi', rfl⟩ := str_turn hx
    replace hy : (shrV p p.length)[i]? = some y := hy
    rw [shrV_get p _ i hi' hi'] at hy
    cases hy
    refine pair_go ?_
    have eS := M_step (p.take i) p[i]
    rw [← take_succ' hi'] at eS
    have hlen : (tx (M (p.take i))).length = L (p.take i) := by rw [tx_len]; rfl
    have hmz : (M (p.take i)).length = L (p.take i) := rfl
    have e2 := e1.trans (Evl.Ex.new (o := .tup [.str (tx [p[i]]), oV ((lastIx (p.take i) p[i]).map fun j => L (p.take j))]) hT)
    refine ⟨_, rfl, _, rfl, Evl.sz_of (by omega), _, rfl, _, _, rfl, rfl, _, rfl, ite2 (fun hge => ?_) (fun hge => ?_)⟩
    · have hge := of_decide_eq_true hge
      refine ⟨_, rfl, _, rfl, _, rfl, _, rfl, Evl.sz_of (by omega), ?_⟩
      rw [cutS_hi]
      rw [M_take_take p i m (by omega)] at k
      exact k _ e2
    · have hge : ¬ ((m : Int) ≤ ((tx (M (p.take i))).length : Nat)) := fun z => hge (decide_eq_true z)
      have hLs : L (p.take (i + 1)) ≤ 2001 := by
        have q1 := L_take_succ p i hi'
        have q2 := gr_le (p.take i) p[i]
        omega
      refine ⟨_, rfl, ?_⟩
      cases e : lastIx (p.take i) p[i] with
      | none =>
        rw [e] at eS e2
        replace eS : M (p.take (i + 1)) = M (p.take i) ++ p[i] :: M (p.take i) := eS
        refine ⟨_, rfl, rfl, _, rfl, iteT ?_⟩
        refine ⟨_, rfl, _, rfl, _, _, rfl, rfl, Evl.sz_of (by rw [tx_len, tx_len]; simp; omega), _, _, rfl, rfl, Evl.sz_of ?_, ?_⟩
        · rw [tx_app, tx_len, tx_len]; simp; omega
        · rw [tx_app, tx_app]
          refine ⟨e2, hLs, some (.str (tx [p[i]])), some .non, ?_⟩
          rw [eS]
          simp [oV]
      | some j =>
        rw [e] at eS e2
        replace eS : M (p.take (i + 1)) = M (p.take i) ++ (M (p.take i)).drop (L ((p.take i).take j)) := eS
        obtain ⟨j1, _, _⟩ := lastIx_some _ _ _ e
        rw [List.length_take] at j1
        have ej : (p.take i).take j = p.take j := by rw [List.take_take, Nat.min_eq_left (by omega)]
        rw [ej] at eS
        refine ⟨_, rfl, rfl, _, rfl, iteF ?_⟩
        refine ⟨_, rfl, _, rfl, _, rfl, _, rfl, Evl.sz_of (by omega), ?_⟩
        rw [cutS_lo']
        refine ⟨_, _, rfl, rfl, Evl.sz_of (by rw [tx_len, tx_len]; simp; omega), ?_⟩
        rw [tx_app]
        refine ⟨e2, hLs, some (.str (tx [p[i]])), some (.int (L (p.take j) : Nat)), ?_⟩
        rw [eS]
        rfl
  · rintro σ H1 ⟨e1, hsz, x1, x2, rfl⟩
    rw [tx_size, List.take_length] at hsz
    rw [tx_size, List.take_length]
    refine ⟨_, rfl, _, rfl, _, rfl, _, rfl, Evl.sz_of (by rw [tx_len]; show L p ≤ _; omega), ?_⟩
    rw [cutS_hi]
    exact k H1 e1
theorem sc_Copies_midst : FnScope ["self", "many", "head", "around", "size", "shared", "begin", "behind"] ["self", "many", "head", "around"] (defScope (inClass (top 47) 6)) := ⟨rfl, rfl, rfl, by decide +kernel, rfl, by decide +kernel, by decide +kernel⟩
def H_Copies_midst (P : Program) (w : World) (K : PySem.W.Frag) (mg : Str → Option Value) (base : Heap) : Prop := HasM P w K mg base (CX0) 2 "Copies" "midst" ["self", "many", "head", "around"] (sp_Copies_midst K)
theorem ok_Copies_midst {f : Addr} {fd : FuncData} (F : FunD K "midst" "Copies.midst" (defArgs (inClass (top 47) 6)) (defBody (inClass (top 47) 6)) (defScope (inClass (top 47) 6)) [] [] f fd) (T : Tp K mg)  (h_Copies_size : H_Copies_size P w K mg base) : FnOk P w K mg base (CX0) 2 f fd ["self", "many", "head", "around"] (sp_Copies_midst K) := by
  refine F.ok sc_Copies_midst (fun vs H Q E h => by (obtain ⟨_, _, _, _, rfl, _⟩ := h; rfl)) (fun cdv A outer s H vs Q E hr h => ?_)
  obtain ⟨c, p, m, r, rfl, hc, hl, hr', hm, k⟩ := h
  refine ⟨_, PSs.nox (pss_cons (ps_par (i := 4) (j := 5) (by rfl) sc_Copies_midst.nd rfl rfl (by decide) rfl rfl (pa_cons (pmeth h_Copies_size (pv 0) hr (pa_cons (pv 1) pa_nil)) (pa_cons (pe_ix ix_list (pe_fld (pv 0) rfl) (pv 1) (fun _ _ => rfl)) pa_nil)) (by rfl)) (pss_cons (ps_set (i := 6) sc_Copies_midst.nd rfl (Or.inl rfl) (pe_slice sl_str (pv 2) po_none (po_some (pe_callB (call_min2 rfl) (by rfl) T.min (by decide +kernel) (pa_cons (pv 4) (pa_cons (pv 3) pa_nil)))))) (pss_cons (ps_set (i := 7) sc_Copies_midst.nd rfl (Or.inl rfl) (pe_ifExp (pt_cmpR op_isN (pv 5) pe_non (nomark _)) (pe_op op_add_str (pe_ix ix_str (pe_fld (pv 0) rfl) (pv 1) (fun _ _ => rfl)) (pv 6)) (pe_slice sl_str (pv 6) (po_some (pv 5)) po_none))) (pss_one (ps_ret (pe_tup (pa_cons (pe_op op_add_str (pe_revS (pv 6)) (pv 7)) (pa_cons (pe_op op_sub (pv 4) (pe_callB call_len_str (by rfl) T.len PySem.boot_len (pa_cons (pv 6) pa_nil))) pa_nil)))))))), ?_⟩
  have hc' := hc
  obtain ⟨dx, a, b, h1, h2, h3⟩ := hc
  refine ⟨_, rfl, c, dx, _, rfl, h1, cpF_no _ _ _ (by decide +kernel) (by decide +kernel) (by decide +kernel), _, rfl, c, p, m, rfl, hc', Nat.le_of_lt hm, fun H1 e1 => ?_⟩
  refine ⟨_, rfl, c, _, _, _, _, rfl, e1 _ _ h1, T.clCop, T.naCop3, cpF_3 _ _ _, _, rfl, _, _, _, _, rfl, rfl, SqL.of (e1 _ _ h3), atI_nat (shrV_get p _ m hm hm), _, _, rfl, ?_⟩
  have hmin : (if (r : Int) < (L (p.take m) : Int) then (r : Int) else (L (p.take m) : Int)) = ((min (L (p.take m)) r : Nat) : Int) := by split <;> omega
  have hlr : (tx ((M p).take r)).length ≤ 1000 := by rw [tx_len, List.length_take]; omega
  refine ⟨_, rfl, _, rfl, _, rfl, _, _, rfl, ((min (L (p.take m)) r : Nat) : Int), congrArg V.int hmin, _, rfl, Evl.sz_of (by omega), ?_⟩
  rw [cutS_hi, M_take_min]
  have hlb : ((M (p.take m)).take r).length = min (L (p.take m)) r := by rw [List.length_take]; unfold L; omega
  have hlb2 : (tx ((M (p.take m)).take r)).length = min (L (p.take m)) r := by rw [tx_len, hlb]
  have fin : ∀ b : Wd, b = (match lastIx (p.take m) p[m] with | none => p[m] :: (M (p.take m)).take r | some j => ((M (p.take m)).take r).drop (L ((p.take m).take j))) → b.length ≤ 1001 → ∀ σ : L2.St, σ[4]? = some (some (.int (L (p.take m) : Nat))) → σ[6]? = some (some (.str (tx ((M (p.take m)).take r)))) → σ[7]? = some (some (.str (tx b))) →
      tRet (tTup (tCons (tOp (fun x y H Q => ∃ i j, x = .str i ∧ y = .str j ∧ i.length + j.length ≤ sizeLine ∧ Q (.str (i ++ j)) H) (tRevS (tVar 6)) (tVar 7)) (tCons (tOp (rI0 fun i j => .int (i - j)) (tVar 4) (tCB (fun xs H Q => ∃ x, xs = [.str x] ∧ x.length ≤ sizeLine ∧ Q (.int x.length) H) (tCons (tVar 6) tNil))) tNil))) { nx := fun _ H' => Q .non H', rt := Q } σ H1 := by
    intro bb hb hbl σ s4 s6 s7
    refine ⟨_, s6, _, rfl, Evl.sz_of (by omega), _, s7, _, _, rfl, rfl, Evl.sz_of (by rw [revS_len, tx_len (w := bb)]; omega), _, s4, _, s6, _, rfl, Evl.sz_of (by omega), _, _, rfl, rfl, by show 2 ≤ sizeLine; decide, fun t ht => ?_⟩
    rw [tx_rev, tx_app, hlb2]
    have em : ((M (p.take m)).take r).reverse ++ bb = mid (p.take m) p[m] r := by rw [hb]; rfl
    have ei : (L (p.take m) : Int) - ((min (L (p.take m)) r : Nat) : Int) = ((L (p.take m) - min (L (p.take m)) r : Nat) : Int) := by omega
    rw [em]
    show Q (.ref t) (upd H1 t (.tup [.str (tx (mid (p.take m) p[m] r)), .int ((L (p.take m) : Int) - ((min (L (p.take m)) r : Nat) : Int))]))
    rw [ei]
    exact k t _ (Evl.fresh_back e1 ht) (e1.trans (Evl.Ex.new ht)) upd_same
  refine ⟨_, rfl, rfl, ?_⟩
  cases e : lastIx (p.take m) p[m] with
  | none =>
    rw [e] at fin
    refine ⟨_, rfl, iteT ?_⟩
    refine ⟨_, rfl, c, _, _, _, _, rfl, e1 _ _ h1, T.clCop, T.naCop1, cpF_1 _ _ _, _, rfl, _, _, _, rfl, rfl, Evl.sz_of (by rw [tx_len]; omega), atI_nat (j := m) (xs := p) (List.getElem?_eq_getElem hm), _, rfl, _, _, rfl, rfl, Evl.sz_of (by show (tx [p[m]]).length + _ ≤ _; rw [tx_len, hlb2]; simp; omega), ?_⟩
    have e3 : (⟨#[p[m]]⟩ : Str) ++ tx ((M (p.take m)).take r) = tx (p[m] :: (M (p.take m)).take r) := tx_app [p[m]] _
    rw [e3]
    exact fin _ rfl (by rw [List.length_cons, hlb]; omega) _ rfl rfl rfl
  | some j =>
    rw [e] at fin
    obtain ⟨j1, _, _⟩ := lastIx_some _ _ _ e
    rw [List.length_take] at j1
    have ej : (p.take m).take j = p.take j := by rw [List.take_take, Nat.min_eq_left (by omega)]
    refine ⟨_, rfl, iteF ?_⟩
    refine ⟨_, rfl, _, rfl, _, rfl, _, rfl, Evl.sz_of (by omega), ?_⟩
    rw [cutS_lo']
    exact fin _ (by show List.drop (L (p.take j)) _ = List.drop (L ((p.take m).take j)) _; rw [ej]) (by rw [List.length_drop, hlb]; omega) _ rfl rfl rfl
theorem sc_need_piece : FnScope ["piece"] ["piece"] (defScope (top 48)) := ⟨rfl, rfl, rfl, by decide +kernel, rfl, by decide +kernel, by decide +kernel⟩
def H_need_piece (P : Program) (w : World) (K : PySem.W.Frag) (mg : Str → Option Value) (base : Heap) : Prop := Has P w K mg base (CX0) 4 "need_piece" ["piece"] (sp_need_piece K)
theorem ok_need_piece {f : Addr} {fd : FuncData} (F : FunD K "need_piece" "need_piece" (defArgs (top 48)) (defBody (top 48)) (defScope (top 48)) [] [] f fd) (T : Tp K mg)  (h_need_text : H_need_text P w K mg base) : FnOk P w K mg base (CX0) 4 f fd ["piece"] (sp_need_piece K) := by
  refine F.ok sc_need_piece (fun vs H Q E h => by (obtain ⟨_, rfl, _⟩ := h; rfl)) (fun cdv A outer s H vs Q E hr h => ?_)
  obtain ⟨p, rfl, hp, hl, k⟩ := h
  refine ⟨_, PSs.nox (pss_cons (ps_if (PW.pt (pw_and (pt_val (pe_callB call_isi (by rfl) T.isinstance (by decide +kernel) (pa_cons (pv 0) (pa_cons (pe_bltn (v := .ty "str") (u := .type "str") (by rfl) T.str (by decide +kernel) rfl) pa_nil)))) (pw_and1 (pt_cmpR op_gt (pe_callB call_len_str (by rfl) T.len PySem.boot_len (pa_cons (pv 0) pa_nil)) (pglobI rfl T.cPiece) (nomark _))))) (pss_one ps_never) pss_nil) (pss_one (ps_expr (pcall h_need_text hr rfl (pa_cons (pv 0) pa_nil))))), ?_⟩
  refine ⟨_, rfl, _, _, _, _, true, rfl, .ty _, .base (.str _), kit_ty (by decide +kernel), true, rfl, iteT ?_⟩
  refine ⟨_, rfl, _, rfl, Evl.sz_of (by rw [tx_len]; omega), _, _, rfl, rfl, _, rfl, ifF (decide_eq_false (by rw [tx_len]; omega)) ?_⟩
  exact ⟨_, rfl, _, rfl, hp, by omega, fun H2 e2 => k H2 e2⟩
end
end Mw
end
section
set_option Elab.async false
set_option linter.all false
set_option maxRecDepth 100000
set_option maxHeartbeats 4000000
/-! pieces: found_home, home, how_often, place_at, stand_ahead -/
namespace Mw
open PySem PySem.Spec PyProof.Rows L2 Mir Mr
theorem home_len {p z : Wd} {m A : Nat} (h : Home p z m A) : (occs p z).length = L (p.drop m) + 1 := by rw [occs_home h]; simp
theorem home_get {p z : Wd} {m A n o : Nat} (h : Home p z m A) (e : (occs p z)[n]? = some o) : n ≤ L (p.drop m) ∧ o = A + bs (p.take m) (p.drop m) n := by
  rw [occs_home h] at e
  have hn := (List.getElem?_eq_some_iff.mp e).1
  simp at hn
  rw [List.getElem?_map, List.getElem?_range hn] at e
  exact ⟨by omega, (Option.some.inj e).symm⟩
theorem L_drop_le (p : Wd) (m : Nat) : L (p.drop m) ≤ L p := by
  have h : ∀ (u t : Wd), L t ≤ L (u ++ t) := fun u t => by
    rw [L_app]
    have := psi_len u (M t)
    unfold L; omega
  have := h (p.take m) (p.drop m)
  rwa [List.take_append_drop] at this
theorem home_A {p z : Wd} {m A : Nat} (h : Home p z m A) : A ≤ L p := by
  have h1 := h.here.le
  have h2 := L_take_le p m
  have h3 : (M (p.take m)).length = L (p.take m) := rfl
  omega
section
variable {P : Program} {w : World} {K : Frag} {mg : Str → Option Value} {base : Heap}
theorem sc_found_home : FnScope ["copies", "piece", "head", "around", "many", "text", "begin", "at"] ["copies", "piece"] (defScope (top 49)) := ⟨rfl, rfl, rfl, by decide +kernel, rfl, by decide +kernel, by decide +kernel⟩
def H_found_home (P : Program) (w : World) (K : PySem.W.Frag) (mg : Str → Option Value) (base : Heap) : Prop := Has P w K mg base (CX0) 4 "found_home" ["copies", "piece"] (sp_found_home K)
theorem ok_found_home {f : Addr} {fd : FuncData} (F : FunD K "found_home" "found_home" (defArgs (top 49)) (defBody (top 49)) (defScope (top 49)) [] [] f fd) (T : Tp K mg)  (h_Copies_head : H_Copies_head P w K mg base) (h_Copies___len__ : H_Copies___len__ P w K mg base) (h_Copies_midst : H_Copies_midst P w K mg base) : FnOk P w K mg base (CX0) 4 f fd ["copies", "piece"] (sp_found_home K) := by
  refine F.ok sc_found_home (fun vs H Q E h => by (obtain ⟨_, _, _, rfl, _⟩ := h; rfl)) (fun cdv A outer s H vs Q E hr h => ?_)
  obtain ⟨c, p, z, rfl, hc, hp, hz, ⟨j0, hj0⟩, k⟩ := h
  refine ⟨_, PSs.nox (pss_cons (ps_if (pt_cmpR op_eq (pv 1) pe_str (nomark _)) (pss_one (ps_ret (pe_tup (pa_cons pe_int (pa_cons pe_int pa_nil))))) pss_nil) (pss_cons (ps_par (i := 2) (j := 3) (by rfl) sc_found_home.nd rfl rfl (by decide) rfl rfl (pa_cons (pmeth h_Copies_head (pv 0) hr (pa_cons (pe_op op_sub (pe_callB call_len_str (by rfl) T.len PySem.boot_len (pa_cons (pv 1) pa_nil)) pe_int) pa_nil)) (pa_cons (pe_op op_sub (pe_callB call_len_str (by rfl) T.len PySem.boot_len (pa_cons (pv 1) pa_nil)) pe_int) pa_nil)) (by rfl)) (pss_cons (ps_for PassesOwn.never rfl (pi_range1 rfl T.range (pa_cons (pe_callB (plen h_Copies___len__ hr) (by rfl) T.len PySem.boot_len (pa_cons (pv 0) pa_nil)) pa_nil)) (pg_name (i := 4) sc_found_home.nd rfl (Or.inl rfl)) (pss_cons (ps_asg (pmeth h_Copies_midst (pv 0) hr (pa_cons (pv 4) (pa_cons (pv 2) (pa_cons (pv 3) pa_nil)))) (pg_tup rfl (pgs_cons (pg_name (i := 5) sc_found_home.nd rfl (Or.inl rfl)) (pgs_cons (pg_name (i := 6) sc_found_home.nd rfl (Or.inl rfl)) pgs_nil)))) (pss_cons (ps_set (i := 7) sc_found_home.nd rfl (Or.inl rfl) (pe_bm PySem.F.plainAttrs_str PySem.F.slot_str_find PySem.F.type_str_find mt_find (pv 5) (pa_cons (pv 1) pa_nil))) (pss_one (ps_if (pt_cmpR op_ge (pv 7) pe_int (nomark _)) (pss_one (ps_ret (pe_tup (pa_cons (pe_op op_add (pv 4) pe_int) (pa_cons (pe_op op_add (pv 6) (pv 7)) pa_nil))))) pss_nil))))) (pss_one (ps_ret pe_non))))), ?_⟩
  have hlen := hp.len
  have hzl := tx_len z
  have hzz : tx z = ("" : Str) ↔ z = [] := ⟨fun e => tx_inj (e.trans tx_nil.symm), fun e => by rw [e, tx_nil]⟩
  refine ⟨_, rfl, rfl, _, rfl, ite2 (fun h0 => ?_) (fun h0 => ?_)⟩
  · have h0 := of_decide_eq_true h0
    injection h0 with h0
    have h0 := hzz.mp h0
    subst h0
    refine ⟨by show 2 ≤ sizeLine; decide, fun t ht => ?_⟩
    exact k 0 0 (home_nil p) t _ ht (Evl.Ex.new ht) upd_same
  · have hz0 : z ≠ [] := fun e => h0 (decide_eq_true (by rw [hzz.mpr e]))
    have hz1 : 1 ≤ z.length := by cases z with | nil => exact absurd rfl hz0 | cons a b => simp
    obtain ⟨m, A, hm, HH, hno, hone⟩ := home_one p z j0 hz0 hj0
    have hmp := HH.le
    obtain ⟨dx, a, b, h1, h2, h3⟩ := hc
    have ec : ((tx z).length : Int) - 1 = ((z.length - 1 : Nat) : Int) := by omega
    refine ⟨_, rfl, c, dx, _, rfl, h1, cpF_no _ _ _ (by decide +kernel) (by decide +kernel) (by decide +kernel), _, rfl, _, rfl, Evl.sz_of (by omega), _, _, rfl, rfl, c, p, z.length - 1, by rw [← ec]; rfl, ⟨dx, a, b, h1, h2, h3⟩, hlen, by omega, fun H1 e1 => ?_⟩
    refine ⟨_, rfl, _, rfl, Evl.sz_of (by omega), _, _, rfl, rfl, _, _, rfl, ?_⟩
    show tSeq _ _ _ [some (.ref c), some (.str (tx z)), some (.str (tx ((M p).take (z.length - 1)))), some (.int (((tx z).length : Nat) - 1 : Int)), none, none, none, none] H1
    rw [ec]
    refine ⟨_, rfl, c, dx, _, rfl, e1 _ _ h1, c, p, rfl, ⟨dx, a, b, e1 _ _ h1, e1 _ _ h2, e1 _ _ h3⟩, hlen, fun H2 e2 => ⟨_, rfl, by omega, by omega, _, rfl, by omega, by omega, ?_⟩⟩
    refine for_it walk_range (fun i σ H' => Evl.Ex H2 H' ∧ i < m ∧ ∃ x1 x2 x3 x4, σ = [some (.ref c), some (.str (tx z)), some (.str (tx ((M p).take (z.length - 1)))), some (.int ((z.length - 1 : Nat) : Int)), x1, x2, x3, x4]) ?_ (fun _ _ _ _ _ => trivial) ?_ ?_
    · exact ⟨Evl.Ex.refl H2, by omega, none, none, none, none, rfl⟩
    · rintro i v σ H3 H4 hi ⟨e3, him, x1, x2, x3, x4, rfl⟩ ⟨rfl, hv⟩
      have hv' : v = .int (i : Nat) := hv.trans (congrArg V.int (Int.zero_add _))
      subst hv'
      have hip : i < p.length := by omega
      have e03 := (e1.trans e2).trans e3
      refine ⟨_, rfl, c, dx, _, rfl, e03 _ _ h1, cpF_no _ _ _ (by decide +kernel) (by decide +kernel) (by decide +kernel), _, rfl, _, rfl, _, rfl, c, p, i, z.length - 1, rfl, ⟨dx, a, b, e03 _ _ h1, e03 _ _ h2, e03 _ _ h3⟩, hlen, by omega, hip, fun t H5 ht e5 h5 => ?_⟩
      refine ⟨t, _, rfl, SqT.of h5, rfl, _, _, rfl, _, _, rfl, rfl, ?_⟩
      refine ⟨_, rfl, rfl, _, rfl, _, _, rfl, rfl, ?_⟩
      have hts := take_succ' hip
      by_cases hlast : i + 1 = m
      · -- it stands here
        have y1 : Occ z (M (p.take i ++ [p[i]])) A := by rw [← hts, hlast]; exact HH.here
        have y2 : ∀ j, Occ z (M (p.take i ++ [p[i]])) j → j = A := by rw [← hts, hlast]; exact hone
        obtain ⟨y3, y4⟩ := mid_yes hz0 y1 y2 (hno i him)
        rw [find_at ((y4 _).mpr rfl) (fun j hj => (y4 j).mp hj)]
        refine ⟨_, rfl, _, _, rfl, rfl, _, rfl, ifT (decide_eq_true (by omega)) ?_⟩
        refine ⟨_, rfl, _, _, rfl, rfl, _, rfl, _, rfl, _, _, rfl, rfl, by show 2 ≤ sizeLine; decide, fun q hq => ?_⟩
        have em : ((i : Nat) : Int) + 1 = (m : Nat) := by omega
        have eA : ((L (p.take i) - min (L (p.take i)) (z.length - 1) : Nat) : Int) + ((A - (L (p.take i) - min (L (p.take i)) (z.length - 1)) : Nat) : Int) = (A : Nat) := by omega
        show Q (.ref q) (upd H5 q (.tup [.int ((i : Nat) + 1 : Int), .int (((L (p.take i) - min (L (p.take i)) (z.length - 1) : Nat) : Int) + ((A - (L (p.take i) - min (L (p.take i)) (z.length - 1)) : Nat) : Int))]))
        rw [em, eA]
        have e05 := e03.trans e5
        exact k m A HH q _ (Evl.fresh_back e05 hq) (e05.trans (Evl.Ex.new hq)) upd_same
      · have hno2 : ∀ j, ¬ Occ z (M (p.take i ++ [p[i]])) j := by rw [← hts]; exact hno (i + 1) (by omega)
        rw [find_no (mid_no (around := z.length - 1) hno2)]
        refine ⟨_, rfl, _, _, rfl, rfl, _, rfl, ifF (decide_eq_false (by decide)) ?_⟩
        exact ⟨e3.trans e5, by omega, _, _, _, _, rfl⟩
    · rintro σ H3 ⟨e3, him, x1, x2, x3, x4, rfl⟩
      exact absurd him (by simp; omega)
theorem sc_home : FnScope ["presses", "piece", "copies", "found"] ["presses", "piece"] (defScope (top 50)) := ⟨rfl, rfl, rfl, by decide +kernel, rfl, by decide +kernel, by decide +kernel⟩
def H_home (P : Program) (w : World) (K : PySem.W.Frag) (mg : Str → Option Value) (base : Heap) : Prop := Has P w K mg base (CX0) 6 "home" ["presses", "piece"] (sp_home K)
theorem ok_home {f : Addr} {fd : FuncData} (F : FunD K "home" "home" (defArgs (top 50)) (defBody (top 50)) (defScope (top 50)) [] [] f fd) (T : Tp K mg)  (h_Copies___init__ : H_Copies___init__ P w K mg base) (h_need_piece : H_need_piece P w K mg base) (h_found_home : H_found_home P w K mg base) : FnOk P w K mg base (CX0) 6 f fd ["presses", "piece"] (sp_home K) := by
  refine F.ok sc_home (fun vs H Q E h => by (obtain ⟨_, _, rfl, _⟩ := h; rfl)) (fun cdv A outer s H vs Q E hr h => ?_)
  obtain ⟨p, z, rfl, hp, hz, hl, ho, k⟩ := h
  refine ⟨_, PSs.nox (pss_cons (ps_set (i := 2) sc_home.nd rfl (Or.inl rfl) (pmake h_Copies___init__ hr rfl (pa_cons (pv 0) pa_nil))) (pss_cons (ps_expr (pcall h_need_piece hr rfl (pa_cons (pv 1) pa_nil))) (pss_cons (ps_set (i := 3) sc_home.nd rfl (Or.inl rfl) (pcall h_found_home hr rfl (pa_cons (pv 2) (pa_cons (pv 1) pa_nil)))) (pss_cons (ps_if (pt_cmpR op_isN (pv 3) pe_non (nomark _)) (pss_one ps_never) pss_nil) (pss_one (ps_ret (pv 3))))))), ?_⟩
  refine ⟨_, rfl, fun c dx hc hdx hne => ⟨c, dx, p, rfl, upd_same, hp, fun H1 hcop e1 => ⟨rfl, ?_⟩⟩⟩
  have e01 : Evl.Ex H H1 := fun b o hb => e1 b o (by rw [upd_ne (ne_of_none hb hc), upd_ne (ne_of_none hb hdx)]; exact hb) (ne_of_none hb hc)
  refine ⟨_, rfl, _, rfl, hz, hl, fun H2 e2 => ?_⟩
  refine ⟨_, rfl, _, rfl, _, _, _, rfl, hcop.ex e2, hp, hl, ho, fun m A hh t H3 ht e3 h3 => ?_⟩
  refine ⟨_, rfl, rfl, _, rfl, iteF ⟨_, rfl, ?_⟩⟩
  exact k m A hh t H3 (Evl.fresh_back (e01.trans e2) ht) ((e01.trans e2).trans e3) h3
theorem sc_how_often : FnScope ["presses", "piece", "copies", "found"] ["presses", "piece"] (defScope (top 51)) := ⟨rfl, rfl, rfl, by decide +kernel, rfl, by decide +kernel, by decide +kernel⟩
def H_how_often (P : Program) (w : World) (K : PySem.W.Frag) (mg : Str → Option Value) (base : Heap) : Prop := Has P w K mg base (CX0) 6 "how_often" ["presses", "piece"] (sp_how_often K)
theorem ok_how_often {f : Addr} {fd : FuncData} (F : FunD K "how_often" "how_often" (defArgs (top 51)) (defBody (top 51)) (defScope (top 51)) [] [] f fd) (T : Tp K mg)  (h_Copies___init__ : H_Copies___init__ P w K mg base) (h_need_piece : H_need_piece P w K mg base) (h_found_home : H_found_home P w K mg base) (h_length : H_length P w K mg base) : FnOk P w K mg base (CX0) 6 f fd ["presses", "piece"] (sp_how_often K) := by
  refine F.ok sc_how_often (fun vs H Q E h => by (obtain ⟨_, _, rfl, _⟩ := h; rfl)) (fun cdv A outer s H vs Q E hr h => ?_)
  obtain ⟨p, z, rfl, hp, hz, hl, ho, k⟩ := h
  refine ⟨_, PSs.nox (pss_cons (ps_set (i := 2) sc_how_often.nd rfl (Or.inl rfl) (pmake h_Copies___init__ hr rfl (pa_cons (pv 0) pa_nil))) (pss_cons (ps_expr (pcall h_need_piece hr rfl (pa_cons (pv 1) pa_nil))) (pss_cons (ps_set (i := 3) sc_how_often.nd rfl (Or.inl rfl) (pcall h_found_home hr rfl (pa_cons (pv 2) (pa_cons (pv 1) pa_nil)))) (pss_one (ps_ret (pe_ifExp (pt_cmpR op_isN (pv 3) pe_non (nomark _)) pe_int (pe_op op_add (pcall h_length hr rfl (pa_cons (pe_slice sl_str (pv 0) (po_some (pe_ix ix_tup (pv 3) pe_int (fun _ _ => rfl))) po_none) pa_nil)) pe_int))))))), ?_⟩
  refine ⟨_, rfl, fun c dx hc hdx hne => ⟨c, dx, p, rfl, upd_same, hp, fun H1 hcop e1 => ⟨rfl, ?_⟩⟩⟩
  have e01 : Evl.Ex H H1 := fun b o hb => e1 b o (by rw [upd_ne (ne_of_none hb hc), upd_ne (ne_of_none hb hdx)]; exact hb) (ne_of_none hb hc)
  refine ⟨_, rfl, _, rfl, hz, hl, fun H2 e2 => ?_⟩
  refine ⟨_, rfl, _, rfl, _, _, _, rfl, hcop.ex e2, hp, hl, ho, fun m A hh t H3 ht e3 h3 => ?_⟩
  refine ⟨_, rfl, rfl, _, rfl, iteF ?_⟩
  refine ⟨_, rfl, _, rfl, _, _, _, _, rfl, rfl, SqT.of h3, atI_nat (j := 0) rfl, _, rfl, _, rfl, Evl.sz_of (by rw [tx_len]; have := hp.len; omega), ?_⟩
  rw [cutS_lo']
  refine ⟨_, rfl, hp.drop m, fun H4 e4 => ⟨_, _, rfl, rfl, ?_⟩⟩
  rw [home_len hh] at k
  exact k H4 (((e01.trans e2).trans e3).trans e4)
theorem sc_place_at : FnScope ["presses", "piece", "number", "many", "at"] ["presses", "piece", "number"] (defScope (top 52)) := ⟨rfl, rfl, rfl, by decide +kernel, rfl, by decide +kernel, by decide +kernel⟩
def H_place_at (P : Program) (w : World) (K : PySem.W.Frag) (mg : Str → Option Value) (base : Heap) : Prop := Has P w K mg base (CX0) 7 "place_at" ["presses", "piece", "number"] (sp_place_at K)
theorem ok_place_at {f : Addr} {fd : FuncData} (F : FunD K "place_at" "place_at" (defArgs (top 52)) (defBody (top 52)) (defScope (top 52)) [] [] f fd) (T : Tp K mg)  (h_home : H_home P w K mg base) (h_is_whole : H_is_whole P w K mg base) (h_length : H_length P w K mg base) (h_block_start : H_block_start P w K mg base) : FnOk P w K mg base (CX0) 7 f fd ["presses", "piece", "number"] (sp_place_at K) := by
  refine F.ok sc_place_at (fun vs H Q E h => by (obtain ⟨_, _, _, _, rfl, _⟩ := h; rfl)) (fun cdv A outer s H vs Q E hr h => ?_)
  obtain ⟨p, z, n, o, rfl, hp, hz, hl, ho, k⟩ := h
  refine ⟨_, PSs.nox (pss_cons (ps_asg (pcall h_home hr rfl (pa_cons (pv 0) (pa_cons (pv 1) pa_nil))) (pg_tup rfl (pgs_cons (pg_name (i := 3) sc_place_at.nd rfl (Or.inl rfl)) (pgs_cons (pg_name (i := 4) sc_place_at.nd rfl (Or.inl rfl)) pgs_nil)))) (pss_cons (ps_if (pt_not (pt_val (pwhole h_is_whole hr rfl (pa_cons (pv 2) pa_nil) (pk_cons (pcall h_length hr rfl (pa_cons (pe_slice sl_str (pv 0) (po_some (pv 3)) po_none) pa_nil)) pk_nil)))) (pss_one ps_never) pss_nil) (pss_one (ps_ret (pe_op op_add (pcall h_block_start hr rfl (pa_cons (pv 0) (pa_cons (pv 3) (pa_cons (pv 2) pa_nil)))) (pv 4)))))), ?_⟩
  have hocc : ∃ j, Occ z (M p) j := ⟨o, (mem_occs p z o).mp (List.mem_of_getElem? ho)⟩
  refine ⟨_, rfl, _, rfl, p, z, rfl, hp, hz, hl, hocc, fun m A hh t H1 ht e1 h1 => ?_⟩
  obtain ⟨hn, rfl⟩ := home_get hh ho
  refine ⟨t, _, rfl, SqT.of h1, rfl, _, _, rfl, _, _, rfl, rfl, ?_⟩
  refine ⟨_, rfl, _, rfl, _, rfl, _, rfl, _, rfl, Evl.sz_of (by rw [tx_len]; have := hp.len; omega), ?_⟩
  rw [cutS_lo']
  refine ⟨_, rfl, hp.drop m, fun H2 e2 => ⟨rfl, rfl, whole_yes (by omega) (by omega) fun H3 e3 => ⟨true, rfl, iteF ?_⟩⟩⟩
  refine ⟨_, rfl, _, rfl, _, rfl, p, m, n, rfl, hp, hh.le, hn, fun H4 e4 => ⟨_, rfl, _, _, rfl, rfl, ?_⟩⟩
  have e : ((bs (p.take m) (p.drop m) n : Nat) : Int) + (A : Nat) = ((A + bs (p.take m) (p.drop m) n : Nat) : Int) := by omega
  show Q (.int (((bs (p.take m) (p.drop m) n : Nat) : Int) + (A : Nat))) H4
  rw [e]
  exact k H4 (((e1.trans e2).trans e3).trans e4)
theorem sc_stand_ahead : FnScope ["presses", "piece", "place", "many", "at", "whole", "spot"] ["presses", "piece", "place"] (defScope (top 53)) := ⟨rfl, rfl, rfl, by decide +kernel, rfl, by decide +kernel, by decide +kernel⟩
def H_stand_ahead (P : Program) (w : World) (K : PySem.W.Frag) (mg : Str → Option Value) (base : Heap) : Prop := Has P w K mg base (CX0) 7 "stand_ahead" ["presses", "piece", "place"] (sp_stand_ahead K)
theorem ok_stand_ahead {f : Addr} {fd : FuncData} (F : FunD K "stand_ahead" "stand_ahead" (defArgs (top 53)) (defBody (top 53)) (defScope (top 53)) [] [] f fd) (T : Tp K mg)  (h_home : H_home P w K mg base) (h_length : H_length P w K mg base) (h_is_whole : H_is_whole P w K mg base) (h_block_of : H_block_of P w K mg base) : FnOk P w K mg base (CX0) 7 f fd ["presses", "piece", "place"] (sp_stand_ahead K) := by
  refine F.ok sc_stand_ahead (fun vs H Q E h => by (obtain ⟨_, _, _, rfl, _⟩ := h; rfl)) (fun cdv A outer s H vs Q E hr h => ?_)
  obtain ⟨p, z, n, rfl, hp, hz, hl, ho, hn, k⟩ := h
  refine ⟨_, PSs.nox (pss_cons (ps_asg (pcall h_home hr rfl (pa_cons (pv 0) (pa_cons (pv 1) pa_nil))) (pg_tup rfl (pgs_cons (pg_name (i := 3) sc_stand_ahead.nd rfl (Or.inl rfl)) (pgs_cons (pg_name (i := 4) sc_stand_ahead.nd rfl (Or.inl rfl)) pgs_nil)))) (pss_cons (ps_set (i := 5) sc_stand_ahead.nd rfl (Or.inl rfl) (pcall h_length hr rfl (pa_cons (pv 0) pa_nil))) (pss_cons (ps_if (pt_not (pt_val (pwhole h_is_whole hr rfl (pa_cons (pv 2) pa_nil) (pk_cons (pe_op op_add (pv 5) pe_int) pk_nil)))) (pss_one ps_never) pss_nil) (pss_cons (ps_set (i := 6) sc_stand_ahead.nd rfl (Or.inl rfl) (pe_op op_sub (pe_op op_sub (pv 2) pe_int) (pv 4))) (pss_cons (ps_if (pt_cmpR op_lt (pv 6) pe_int (nomark _)) (pss_one (ps_ret pe_int)) pss_nil) (pss_cons (ps_if (pt_cmpR op_ge (pv 6) (pv 5) (nomark _)) (pss_one (ps_ret (pe_op op_add (pcall h_length hr rfl (pa_cons (pe_slice sl_str (pv 0) (po_some (pv 3)) po_none) pa_nil)) pe_int))) pss_nil) (pss_one (ps_ret (pe_op op_add (pe_ix ix_tup (pcall h_block_of hr rfl (pa_cons (pv 0) (pa_cons (pv 3) (pa_cons (pv 6) pa_nil)))) pe_int (fun _ _ => rfl)) pe_int))))))))), ?_⟩
  refine ⟨_, rfl, _, rfl, p, z, rfl, hp, hz, hl, ho, fun m A hh t H1 ht e1 h1 => ?_⟩
  rw [cnt_home hh] at k
  refine ⟨t, _, rfl, SqT.of h1, rfl, _, _, rfl, _, _, rfl, rfl, ?_⟩
  refine ⟨_, rfl, _, rfl, hp, fun H2 e2 => ?_⟩
  refine ⟨_, rfl, _, rfl, _, _, rfl, rfl, rfl, rfl, whole_yes (by omega) (by omega) fun H3 e3 => ⟨true, rfl, iteF ?_⟩⟩
  have e03 := (e1.trans e2).trans e3
  refine ⟨_, rfl, _, _, rfl, rfl, _, rfl, _, _, rfl, rfl, ?_⟩
  refine ⟨_, rfl, _, _, rfl, rfl, _, rfl, ite2 (fun h0 => ?_) (fun h0 => ?_)⟩
  · have h0 : (n : Int) - 1 - (A : Nat) < 0 := of_decide_eq_true h0
    rw [if_pos (by omega)] at k
    exact k H3 e03
  · have h0 : ¬ (n : Int) - 1 - (A : Nat) < 0 := fun q => h0 (decide_eq_true q)
    rw [if_neg (by omega)] at k
    refine ⟨_, rfl, _, rfl, _, _, rfl, rfl, _, rfl, ite2 (fun h4 => ?_) (fun h4 => ?_)⟩
    · have h4 : ((L p : Nat) : Int) ≤ (n : Int) - 1 - (A : Nat) := of_decide_eq_true h4
      rw [if_pos (by omega)] at k
      refine ⟨_, rfl, _, rfl, _, rfl, _, rfl, Evl.sz_of (by rw [tx_len]; have := hp.len; omega), ?_⟩
      rw [cutS_lo']
      exact ⟨_, rfl, hp.drop m, fun H4 e4 => ⟨_, _, rfl, rfl, k H4 (e03.trans e4)⟩⟩
    · have h4 : ¬ ((L p : Nat) : Int) ≤ (n : Int) - 1 - (A : Nat) := fun q => h4 (decide_eq_true q)
      rw [if_neg (by omega)] at k
      have es : (n : Int) - 1 - (A : Nat) = ((n - 1 - A : Nat) : Int) := by omega
      refine ⟨_, rfl, _, rfl, _, rfl, p, m, n - 1 - A, by rw [← es]; rfl, hp, hh.le, by omega, fun q H4 hq e4 h4 => ?_⟩
      exact ⟨_, _, _, _, rfl, rfl, SqT.of h4, atI_nat (j := 0) rfl, _, _, rfl, rfl, k H4 (e03.trans e4)⟩
end
end Mw
end
section
set_option Elab.async false
set_option linter.all false
set_option maxRecDepth 100000
set_option maxHeartbeats 4000000
/-! press: Presser, Walker -/
namespace Mw
open PySem PySem.Spec PyProof.Rows L2 Mir Mr
/-- the refusal's class -/
structure Tg (K : Frag) (mg : Str → Option Value) : Prop where
  gG : mg "Gone" = some (.ref (cGon K))
  xG : PySem.W.excIn K (cGon K) [.type "LookupError", .type "Exception", .type "BaseException", .type "object"] "LookupError.__new__" = true
  kG : PySem.W.keepIn K (.ref (cGon K)) = true
  bG : PySem.W.subIn K (.ref (cGon K)) (.type "BaseException") = some true
  tG : PySem.W.typeIn K (.ref (cGon K)) = some (.type "type")
  eG : PySem.W.exmOne K (.ref (cGon K)) (.ref (cGon K)) = some true
section
variable {X : Cx} {lv k : Nat} {x m C : Str} {ps : List Str} {sp : Sp} {p pos apos : Pos} {e o : Expr} {es : List Expr} {ta : TE} {t : TA} {E : XK}
theorem passX0 : Passes (L2.CX X.prog X.w) X E0 := fun _ _ _ _ _ _ _ ⟨_, _, _, _, _, _, _, _, _, _, _, _, z⟩ => z.elim
theorem pmethX {pl : Sem Bool} (h : HasM X.prog X.w X.K X.mg X.base (L2.CX X.prog X.w) lv C m ps sp) (hx : Passes (L2.CX X.prog X.w) X E) (he : PE X o ta) (hr : Room k X.A) (ha : PA X (e :: es) t) (hl : lv ≤ k := by decide)
    (hst : starEach (e :: es) X.env = (false, eval e X.env) :: starEach es X.env := by rfl) (hpl : (backTo pos (starEach es X.env)).any (·.1) = false := by rfl)
    (ht : eval (.Call (.Attribute o m apos) (e :: es) [] pos) X.env = (eval o X.env >>= fun ov => standAt apos.atName >>= fun _ => holding [ov] (getMethod ov m pl) >>= fun q => callWith pos q.1 q.2 (backTo pos (starEach (e :: es) X.env)) (backToKw pos (keywordEach [] X.env))) := by rfl) : PE X (.Call (.Attribute o m apos) (e :: es) [] pos) (tMeth (He.ga X.K C) m sp [] E ta t) := by
  obtain ⟨c, f, fd, F, hm, hb⟩ := h
  exact pe_meth (pl := pl) he c hm F (hr.mono hl) hb .nil hx ha hst hpl ht
end
/-! ### a presser, a walker -/
def prF (p : Wd) (r l : Addr) : List (Str × V) := putF "own_walkers" (.ref l) (putF "rows_put" (.ref r) (putF "row_now" (.str (tx p)) []))
theorem m12 : ¬ (("row_now" : Str) = "rows_put") := by decide +kernel
theorem m13 : ¬ (("row_now" : Str) = "own_walkers") := by decide +kernel
theorem prF_1 (p : Wd) (r l : Addr) : (prF p r l).lookup ("row_now" : Str) = some (.str (tx p)) := by
  unfold prF
  rw [lookup_putF, if_neg m13, lookup_putF, if_neg m12, lookup_putF, if_pos rfl]
theorem prF_3 (p : Wd) (r l : Addr) : (prF p r l).lookup ("own_walkers" : Str) = some (.ref l) := by
  unfold prF
  rw [lookup_putF, if_pos rfl]
theorem prF_no (p : Wd) (r l : Addr) {m : Str} (h1 : ¬ m = "row_now") (h2 : ¬ m = "rows_put") (h3 : ¬ m = "own_walkers") : (prF p r l).lookup m = none := by
  unfold prF
  rw [lookup_putF, if_neg h3, lookup_putF, if_neg h2, lookup_putF, if_neg h1]
  rfl
def waF (e : Addr) (n : Int) : List (Str × V) := putF "own_stand" (.int n) (putF "own_presser" (.ref e) [])
theorem w12 : ¬ (("own_presser" : Str) = "own_stand") := by decide +kernel
theorem waF_1 (e : Addr) (n : Int) : (waF e n).lookup ("own_presser" : Str) = some (.ref e) := by
  unfold waF
  rw [lookup_putF, if_neg w12, lookup_putF, if_pos rfl]
theorem waF_2 (e : Addr) (n : Int) : (waF e n).lookup ("own_stand" : Str) = some (.int n) := by
  unfold waF
  rw [lookup_putF, if_pos rfl]
theorem waF_no (e : Addr) (n : Int) {m : Str} (h1 : ¬ m = "own_presser") (h2 : ¬ m = "own_stand") : (waF e n).lookup m = none := by
  unfold waF
  rw [lookup_putF, if_neg h2, lookup_putF, if_neg h1]
  rfl
theorem waF_eq (e : Addr) (n : Int) : waF e n = ([("own_presser", .ref e), ("own_stand", .int n)] : List (Str × V)) := by
  show (if ("own_presser" : Str) = "own_stand" then [(("own_presser" : Str), V.int n)] else (("own_presser" : Str), V.ref e) :: putF "own_stand" (V.int n) []) = _
  rw [if_neg w12]
  rfl
theorem waF_put (e : Addr) (n m : Int) : putF "own_stand" (.int m) (waF e n) = waF e m := by
  rw [waF_eq, waF_eq]
  show (if ("own_presser" : Str) = "own_stand" then _ else (("own_presser" : Str), V.ref e) :: (if ("own_stand" : Str) = "own_stand" then [(("own_stand" : Str), V.int m)] else _)) = _
  rw [if_neg w12, if_pos rfl]
theorem waF_len (e : Addr) (n : Int) : (waF e n).length < 1000 := by rw [waF_eq]; show 2 < 1000; decide
/-- a presser of p at e, its walkers' list at l with so many -/
def PreAt (K : Frag) (H : Hp) (e l : Addr) (p : Wd) (n : Nat) : Prop := (∃ dx r, H e = some (.ins (cPre K) dx (prF p r l))) ∧ ∃ ws, H l = some (.lst ws) ∧ ws.length = n
/-- a walker at v of the presser at e, its number n -/
def WalAt (K : Frag) (H : Hp) (v e : Addr) (n : Nat) : Prop := ∃ dx, H v = some (.ins (cWal K) dx (waF e n))
theorem PreAt.ex {K : Frag} {H H' : Hp} {e l : Addr} {p : Wd} {n : Nat} (h : PreAt K H e l p n) (x : Evl.Ex H H') : PreAt K H' e l p n := by
  obtain ⟨⟨dx, r, h1⟩, ws, h2, h3⟩ := h
  exact ⟨⟨dx, r, x _ _ h1⟩, ws, x _ _ h2, h3⟩
theorem WalAt.ex {K : Frag} {H H' : Hp} {v e : Addr} {n : Nat} (h : WalAt K H v e n) (x : Evl.Ex H H') : WalAt K H' v e n := by
  obtain ⟨dx, h1⟩ := h
  exact ⟨dx, x _ _ h1⟩
/-- a walker is no presser and no list -/
theorem PreAt.kp {K : Frag} {H H' : Hp} {v e e2 l : Addr} {p : Wd} {n m : Nat} (h : PreAt K H e l p n) (hv : WalAt K H v e2 m) (hne : cWal K ≠ cPre K) (x : Kp v H H') : PreAt K H' e l p n := by
  obtain ⟨⟨dx, r, h1⟩, ws, h2, h3⟩ := h
  obtain ⟨dy, g⟩ := hv
  refine ⟨⟨dx, r, x _ _ h1 fun z => ?_⟩, ws, x _ _ h2 fun z => ?_, h3⟩
  · rw [z, g] at h1
    injection h1 with h1
    injection h1 with h1
    exact hne h1
  · rw [z, g] at h2
    cases h2
def sp_Presser___init__ (K : Frag) : Sp := fun vs H Q _ => ∃ (c dx : Addr) (p : Wd), vs = [.ref c, .str (tx p)] ∧ H c = some (.ins (cPre K) dx []) ∧ PrOk p ∧ ∀ l H', H l = none → PreAt K H' c l p 0 → Kp c H H' → Q .non H'
def sp_Presser_presses_now (K : Frag) : Sp := fun vs H Q _ => ∃ (e l : Addr) (p : Wd) (n : Nat), vs = [.ref e] ∧ PreAt K H e l p n ∧ RetV (.str (tx p)) H Q
def sp_Presser_size (K : Frag) : Sp := fun vs H Q _ => ∃ (e l : Addr) (p : Wd) (n : Nat), vs = [.ref e] ∧ PreAt K H e l p n ∧ PrOk p ∧ RetV (.int (L p : Nat)) H Q
def sp_Walker___init__ (K : Frag) : Sp := fun vs H Q _ => ∃ (c dx e : Addr) (n : Nat), vs = [.ref c, .ref e, .int n] ∧ H c = some (.ins (cWal K) dx []) ∧ ∀ H', WalAt K H' c e n → Kp c H H' → Q .non H'
def sp_Presser_walker (K : Frag) : Sp := fun vs H Q _ => ∃ (e l : Addr) (p : Wd) (n : Nat), vs = [.ref e, .int n] ∧ PreAt K H e l p 0 ∧ PrOk p ∧ n ≤ L p ∧ ∀ v H', H v = none → WalAt K H' v e n → PreAt K H' e l p 1 → Kp l H H' → Q (.ref v) H'
def sp_Walker_own_presses (K : Frag) : Sp := fun vs H Q _ => ∃ (v e l : Addr) (p : Wd) (n m : Nat), vs = [.ref v] ∧ WalAt K H v e n ∧ PreAt K H e l p m ∧ RetV (.str (tx p)) H Q
def sp_Walker_stands (K : Frag) : Sp := fun vs H Q _ => ∃ (v e : Addr) (n : Nat), vs = [.ref v] ∧ WalAt K H v e n ∧ RetV (.int (n : Nat)) H Q
def sp_Walker_go (K : Frag) : Sp := fun vs H Q _ => ∃ (v e l : Addr) (p : Wd) (n m k : Nat), vs = [.ref v, .int k] ∧ WalAt K H v e n ∧ PreAt K H e l p m ∧ PrOk p ∧ k ≤ L p ∧ ∀ H', WalAt K H' v e k → Kp v H H' → Q .non H'
def sp_Walker_reads (K : Frag) : Sp := fun vs H Q _ => ∃ (v e l : Addr) (p : Wd) (n m k : Nat), vs = [.ref v, .int k] ∧ WalAt K H v e n ∧ PreAt K H e l p m ∧ PrOk p ∧ k ≤ 1000 ∧ n + k ≤ L p ∧ L p < 2 ^ 61 ∧ RetV (.str (tx (((M p).drop n).take k))) H Q
/-- it goes to the i-th place, or is refused -/
def Goes (K : Frag) (H : Hp) (v e : Addr) (p z : Wd) (i : Int) (Q : VK) (E : XK) : Prop :=
  (∀ o H', 0 ≤ i → (occs p z)[i.toNat]? = some o → WalAt K H' v e o → Kp v H H' → Q (.int (o : Nat)) H') ∧ (¬ (0 ≤ i ∧ i < ((occs p z).length : Nat)) → ∀ H', Evl.Ex H H' → E (.ref (cGon K)) none H')
structure GoOk (K : Frag) (H : Hp) (v e l : Addr) (p z : Wd) (n m : Nat) : Prop where
  wal : WalAt K H v e n
  pre : PreAt K H e l p m
  ok : PrOk p
  good : Good z
  len : z.length ≤ 200
  occ : ∃ j, Occ z (M p) j
theorem GoOk.ex {K : Frag} {H H' : Hp} {v e l : Addr} {p z : Wd} {n m : Nat} (h : GoOk K H v e l p z n m) (x : Evl.Ex H H') : GoOk K H' v e l p z n m := ⟨h.wal.ex x, h.pre.ex x, h.ok, h.good, h.len, h.occ⟩
theorem Goes.ex {K : Frag} {H H1 : Hp} {v e : Addr} {p z : Wd} {i : Int} {Q : VK} {E : XK} (h : Goes K H v e p z i Q E) (x : Evl.Ex H H1) : Goes K H1 v e p z i Q E :=
  ⟨fun o H' h0 ho hw hk => h.1 o H' h0 ho hw ((Kp.of x).trans hk), fun hn H' e' => h.2 hn H' (x.trans e')⟩
def sp_Walker_gone_to (K : Frag) : Sp := fun vs H Q E => ∃ (v e l : Addr) (p z : Wd) (n m : Nat) (i : Int), vs = [.ref v, .str (tx z), .int i] ∧ GoOk K H v e l p z n m ∧ Goes K H v e p z i Q E
def sp_Walker_next_of (K : Frag) : Sp := fun vs H Q E => ∃ (v e l : Addr) (p z : Wd) (n m : Nat), vs = [.ref v, .str (tx z)] ∧ GoOk K H v e l p z n m ∧ n ≤ L p ∧ Goes K H v e p z (cnt (occs p z) (n + 1) : Nat) Q E
def sp_Walker_last_of (K : Frag) : Sp := fun vs H Q E => ∃ (v e l : Addr) (p z : Wd) (n m : Nat), vs = [.ref v, .str (tx z)] ∧ GoOk K H v e l p z n m ∧ n ≤ L p ∧ Goes K H v e p z ((cnt (occs p z) n : Nat) - 1) Q E
section
variable {P : Program} {w : World} {K : Frag} {mg : Str → Option Value} {base : Heap}
theorem sc_Presser___init__ : FnScope ["self", "presses"] ["self", "presses"] (defScope (inClass (top 60) 0)) := ⟨rfl, rfl, rfl, by decide +kernel, rfl, by decide +kernel, by decide +kernel⟩
def H_Presser___init__ (P : Program) (w : World) (K : PySem.W.Frag) (mg : Str → Option Value) (base : Heap) : Prop := HasC P w K mg base (CX0) 4 "Presser" ["self", "presses"] (sp_Presser___init__ K)
theorem ok_Presser___init__ {f : Addr} {fd : FuncData} (F : FunD K "__init__" "Presser.__init__" (defArgs (inClass (top 60) 0)) (defBody (inClass (top 60) 0)) (defScope (inClass (top 60) 0)) [.str ""] [] f fd) (T : Tp K mg)  (h_need_presses : H_need_presses P w K mg base) : FnOk P w K mg base (CX0) 4 f fd ["self", "presses"] (sp_Presser___init__ K) := by
  refine F.ok sc_Presser___init__ (fun vs H Q E h => by (obtain ⟨_, _, _, rfl, _⟩ := h; rfl)) (fun cdv A outer s H vs Q E hr h => ?_)
  obtain ⟨c, dx, p, rfl, hc, hp, k⟩ := h
  refine ⟨_, PSs.nox (pss_cons (ps_expr (pcall h_need_presses hr rfl (pa_cons (pv 1) pa_nil))) (pss_cons (ps_fld (pv 0) (pv 1) rfl) (pss_cons (ps_fld (pv 0) (pe_lst pa_nil) rfl) (pss_one (ps_fld (pv 0) (pe_lst pa_nil) rfl))))), ?_⟩
  refine ⟨_, rfl, _, rfl, hp, fun H1 e1 => ?_⟩
  have hc1 := e1 _ _ hc
  refine ⟨_, rfl, _, rfl, c, _, dx, _, rfl, hc1, T.clPre, T.naPre1, (by show 0 < 1000; decide), ?_⟩
  refine ⟨by show 0 ≤ sizeLine; decide, fun a ha => ?_⟩
  have ca : c ≠ a := fun z => by rw [← z, upd_same] at ha; cases ha
  have haH1 : H1 a = none := by rwa [upd_ne (Ne.symm ca)] at ha
  have haH : H a = none := Evl.fresh_back e1 haH1
  refine ⟨_, rfl, c, _, dx, _, rfl, (by rw [upd_ne ca]; exact upd_same), T.clPre, T.naPre2, (by show 1 < 1000; decide), ?_⟩
  refine ⟨by show 0 ≤ sizeLine; decide, fun b hb => ?_⟩
  have cb : c ≠ b := fun z => by rw [← z, upd_same] at hb; cases hb
  rw [upd_ne (Ne.symm cb)] at hb
  have ab : a ≠ b := fun z => by rw [← z, upd_same] at hb; cases hb
  rw [upd_ne (Ne.symm ab), upd_ne (Ne.symm cb)] at hb
  have hbH : H b = none := Evl.fresh_back e1 hb
  refine ⟨_, rfl, c, _, dx, _, rfl, (by rw [upd_ne cb]; exact upd_same), T.clPre, T.naPre3, (Nat.lt_of_le_of_lt (putF_len _ _ _) (Nat.lt_of_le_of_lt (Nat.succ_le_succ (putF_len _ _ _)) (by show 2 < 1000; decide))), ?_⟩
  refine k b _ hbH ⟨⟨dx, a, upd_same⟩, [], ?_, rfl⟩ (((((Kp.of e1).at).mut haH).at).mut hbH).at
  rw [upd_ne (Ne.symm cb), upd_same]
theorem sc_Presser_presses_now : FnScope ["self"] ["self"] (defScope (inClass (top 60) 6)) := ⟨rfl, rfl, rfl, by decide +kernel, rfl, by decide +kernel, by decide +kernel⟩
def H_Presser_presses_now (P : Program) (w : World) (K : PySem.W.Frag) (mg : Str → Option Value) (base : Heap) : Prop := HasM P w K mg base (CX0) 1 "Presser" "presses_now" ["self"] (sp_Presser_presses_now K)
theorem ok_Presser_presses_now {f : Addr} {fd : FuncData} (F : FunD K "presses_now" "Presser.presses_now" (defArgs (inClass (top 60) 6)) (defBody (inClass (top 60) 6)) (defScope (inClass (top 60) 6)) [] [] f fd) (T : Tp K mg)   : FnOk P w K mg base (CX0) 1 f fd ["self"] (sp_Presser_presses_now K) := by
  refine F.ok sc_Presser_presses_now (fun vs H Q E h => by (obtain ⟨_, _, _, _, rfl, _⟩ := h; rfl)) (fun cdv A outer s H vs Q E hr h => ?_)
  obtain ⟨e, l, p, n, rfl, ⟨⟨dx, r, h1⟩, h2⟩, k⟩ := h
  refine ⟨_, PSs.nox (pss_one (ps_ret (pe_fld (pv 0) rfl))), ?_⟩
  exact ⟨_, rfl, e, _, _, _, _, rfl, h1, T.clPre, T.naPre1, prF_1 _ _ _, k H (Evl.Ex.refl H)⟩
theorem sc_Presser_size : FnScope ["self"] ["self"] (defScope (inClass (top 60) 8)) := ⟨rfl, rfl, rfl, by decide +kernel, rfl, by decide +kernel, by decide +kernel⟩
def H_Presser_size (P : Program) (w : World) (K : PySem.W.Frag) (mg : Str → Option Value) (base : Heap) : Prop := HasM P w K mg base (CX0) 5 "Presser" "size" ["self"] (sp_Presser_size K)
theorem ok_Presser_size {f : Addr} {fd : FuncData} (F : FunD K "size" "Presser.size" (defArgs (inClass (top 60) 8)) (defBody (inClass (top 60) 8)) (defScope (inClass (top 60) 8)) [] [] f fd) (T : Tp K mg)  (h_length : H_length P w K mg base) : FnOk P w K mg base (CX0) 5 f fd ["self"] (sp_Presser_size K) := by
  refine F.ok sc_Presser_size (fun vs H Q E h => by (obtain ⟨_, _, _, _, rfl, _⟩ := h; rfl)) (fun cdv A outer s H vs Q E hr h => ?_)
  obtain ⟨e, l, p, n, rfl, ⟨⟨dx, r, h1⟩, h2⟩, hp, k⟩ := h
  refine ⟨_, PSs.nox (pss_one (ps_ret (pcall h_length hr rfl (pa_cons (pe_fld (pv 0) rfl) pa_nil)))), ?_⟩
  exact ⟨_, rfl, e, _, _, _, _, rfl, h1, T.clPre, T.naPre1, prF_1 _ _ _, _, rfl, hp, fun H1 e1 => k H1 e1⟩
theorem sc_Walker___init__ : FnScope ["self", "presser", "stand"] ["self", "presser", "stand"] (defScope (inClass (top 59) 0)) := ⟨rfl, rfl, rfl, by decide +kernel, rfl, by decide +kernel, by decide +kernel⟩
def H_Walker___init__ (P : Program) (w : World) (K : PySem.W.Frag) (mg : Str → Option Value) (base : Heap) : Prop := HasC P w K mg base (CX0) 1 "Walker" ["self", "presser", "stand"] (sp_Walker___init__ K)
theorem ok_Walker___init__ {f : Addr} {fd : FuncData} (F : FunD K "__init__" "Walker.__init__" (defArgs (inClass (top 59) 0)) (defBody (inClass (top 59) 0)) (defScope (inClass (top 59) 0)) [] [] f fd) (T : Tp K mg)   : FnOk P w K mg base (CX0) 1 f fd ["self", "presser", "stand"] (sp_Walker___init__ K) := by
  refine F.ok sc_Walker___init__ (fun vs H Q E h => by (obtain ⟨_, _, _, _, rfl, _⟩ := h; rfl)) (fun cdv A outer s H vs Q E hr h => ?_)
  obtain ⟨c, dx, e, n, rfl, hc, k⟩ := h
  refine ⟨_, PSs.nox (pss_cons (ps_fld (pv 0) (pv 1) rfl) (pss_one (ps_fld (pv 0) (pv 2) rfl))), ?_⟩
  refine ⟨_, rfl, _, rfl, c, _, dx, _, rfl, hc, T.clWal, T.naWal1, (by show 0 < 1000; decide), ?_⟩
  refine ⟨_, rfl, _, rfl, c, _, dx, _, rfl, upd_same, T.clWal, T.naWal2, (by show 1 < 1000; decide), ?_⟩
  exact k _ ⟨dx, upd_same⟩ ((Kp.refl c H).at).at
theorem sc_Presser_walker : FnScope ["self", "stand", "found"] ["self", "stand"] (defScope (inClass (top 60) 9)) := ⟨rfl, rfl, rfl, by decide +kernel, rfl, by decide +kernel, by decide +kernel⟩
def H_Presser_walker (P : Program) (w : World) (K : PySem.W.Frag) (mg : Str → Option Value) (base : Heap) : Prop := HasM P w K mg base (CX0) 6 "Presser" "walker" ["self", "stand"] (sp_Presser_walker K)
theorem ok_Presser_walker {f : Addr} {fd : FuncData} (F : FunD K "walker" "Presser.walker" (defArgs (inClass (top 60) 9)) (defBody (inClass (top 60) 9)) (defScope (inClass (top 60) 9)) [.int 0] [] f fd) (T : Tp K mg)  (h_is_whole : H_is_whole P w K mg base) (h_Presser_size : H_Presser_size P w K mg base) (h_Walker___init__ : H_Walker___init__ P w K mg base) : FnOk P w K mg base (CX0) 6 f fd ["self", "stand"] (sp_Presser_walker K) := by
  refine F.ok sc_Presser_walker (fun vs H Q E h => by (obtain ⟨_, _, _, _, rfl, _⟩ := h; rfl)) (fun cdv A outer s H vs Q E hr h => ?_)
  obtain ⟨e, l, p, n, rfl, hpr, hp, hn, k⟩ := h
  refine ⟨_, PSs.nox (pss_cons (ps_if (pt_not (pt_val (pwhole h_is_whole hr rfl (pa_cons (pv 1) pa_nil) (pk_cons (pmeth0 h_Presser_size (pv 0) hr) pk_nil)))) (pss_one ps_never) pss_nil) (pss_cons (ps_set (i := 2) sc_Presser_walker.nd rfl (Or.inl rfl) (pmake h_Walker___init__ hr rfl (pa_cons (pv 0) (pa_cons (pv 1) pa_nil)))) (pss_cons (ps_expr (pe_bm PySem.F.plainAttrs_list PySem.F.slot_list_append PySem.F.type_list_append mt_append (pe_fld (pv 0) rfl) (pa_cons (pv 2) pa_nil))) (pss_one (ps_ret (pv 2)))))), ?_⟩
  have hpr0 := hpr
  obtain ⟨⟨dx, r, h1⟩, ws, h2, h3⟩ := hpr
  refine ⟨_, rfl, _, rfl, e, dx, _, rfl, h1, prF_no _ _ _ (by decide +kernel) (by decide +kernel) (by decide +kernel), e, l, p, 0, rfl, hpr0, hp, fun H1 e1 => ⟨rfl, rfl, whole_yes (by omega) (by omega) fun H2 e2 => ⟨true, rfl, iteF ?_⟩⟩⟩
  have e02 := e1.trans e2
  refine ⟨_, rfl, _, rfl, fun c dx2 hc hdx hne => ⟨c, dx2, e, n, rfl, upd_same, fun H3 hw e3 => ⟨rfl, ?_⟩⟩⟩
  have e23 : Evl.Ex H2 H3 := fun b o hb => e3 b o (by rw [upd_ne (ne_of_none hb hc), upd_ne (ne_of_none hb hdx)]; exact hb) (ne_of_none hb hc)
  have e03 := e02.trans e23
  have h1' := e03 _ _ h1
  have h2' := e03 _ _ h2
  have hel : e ≠ l := fun z => by rw [z, h2] at h1; cases h1
  have hcl : c ≠ l := ne_of_none (H := H2) (e02 _ _ h2) hc |>.symm
  refine ⟨_, rfl, e, _, _, _, _, rfl, h1', T.clPre, T.naPre3, prF_3 _ _ _, .inl ⟨rfl, _, SqL.of h2'⟩, _, rfl, l, _, _, rfl, rfl, h2', Evl.sz_lt (by omega), ?_⟩
  refine ⟨_, rfl, ?_⟩
  refine k c _ (Evl.fresh_back e02 hc) ?_ ⟨⟨dx, r, by rw [upd_ne hel]; exact h1'⟩, _, upd_same, by rw [List.length_append, h3]; rfl⟩ ((Kp.of e03).at)
  obtain ⟨dy, g⟩ := hw
  exact ⟨dy, by rw [upd_ne hcl]; exact g⟩
theorem sc_Walker_own_presses : FnScope ["self"] ["self"] (defScope (inClass (top 59) 1)) := ⟨rfl, rfl, rfl, by decide +kernel, rfl, by decide +kernel, by decide +kernel⟩
def H_Walker_own_presses (P : Program) (w : World) (K : PySem.W.Frag) (mg : Str → Option Value) (base : Heap) : Prop := HasM P w K mg base (CX0) 2 "Walker" "own_presses" ["self"] (sp_Walker_own_presses K)
theorem ok_Walker_own_presses {f : Addr} {fd : FuncData} (F : FunD K "own_presses" "Walker.own_presses" (defArgs (inClass (top 59) 1)) (defBody (inClass (top 59) 1)) (defScope (inClass (top 59) 1)) [] [] f fd) (T : Tp K mg)  (h_Presser_presses_now : H_Presser_presses_now P w K mg base) : FnOk P w K mg base (CX0) 2 f fd ["self"] (sp_Walker_own_presses K) := by
  refine F.ok sc_Walker_own_presses (fun vs H Q E h => by (obtain ⟨_, _, _, _, _, _, rfl, _⟩ := h; rfl)) (fun cdv A outer s H vs Q E hr h => ?_)
  obtain ⟨v, e, l, p, n, m, rfl, ⟨dx, hv⟩, hp, k⟩ := h
  refine ⟨_, PSs.nox (pss_one (ps_ret (pmeth0 h_Presser_presses_now (pe_fld (pv 0) rfl) hr))), ?_⟩
  have hp0 := hp
  obtain ⟨⟨dy, r, h1⟩, h2⟩ := hp
  exact ⟨_, rfl, v, _, _, _, _, rfl, hv, T.clWal, T.naWal1, waF_1 _ _, e, dy, _, rfl, h1, prF_no _ _ _ (by decide +kernel) (by decide +kernel) (by decide +kernel), e, l, p, m, rfl, hp0, fun H1 e1 => k H1 e1⟩
theorem sc_Walker_stands : FnScope ["self"] ["self"] (defScope (inClass (top 59) 2)) := ⟨rfl, rfl, rfl, by decide +kernel, rfl, by decide +kernel, by decide +kernel⟩
def H_Walker_stands (P : Program) (w : World) (K : PySem.W.Frag) (mg : Str → Option Value) (base : Heap) : Prop := HasM P w K mg base (CX0) 1 "Walker" "stands" ["self"] (sp_Walker_stands K)
theorem ok_Walker_stands {f : Addr} {fd : FuncData} (F : FunD K "stands" "Walker.stands" (defArgs (inClass (top 59) 2)) (defBody (inClass (top 59) 2)) (defScope (inClass (top 59) 2)) [] [] f fd) (T : Tp K mg)   : FnOk P w K mg base (CX0) 1 f fd ["self"] (sp_Walker_stands K) := by
  refine F.ok sc_Walker_stands (fun vs H Q E h => by (obtain ⟨_, _, _, rfl, _⟩ := h; rfl)) (fun cdv A outer s H vs Q E hr h => ?_)
  obtain ⟨v, e, n, rfl, ⟨dx, hv⟩, k⟩ := h
  refine ⟨_, PSs.nox (pss_one (ps_ret (pe_fld (pv 0) rfl))), ?_⟩
  exact ⟨_, rfl, v, _, _, _, _, rfl, hv, T.clWal, T.naWal2, waF_2 _ _, k H (Evl.Ex.refl H)⟩
theorem sc_Walker_go : FnScope ["self", "number"] ["self", "number"] (defScope (inClass (top 59) 3)) := ⟨rfl, rfl, rfl, by decide +kernel, rfl, by decide +kernel, by decide +kernel⟩
def H_Walker_go (P : Program) (w : World) (K : PySem.W.Frag) (mg : Str → Option Value) (base : Heap) : Prop := HasM P w K mg base (CX0) 6 "Walker" "go" ["self", "number"] (sp_Walker_go K)
theorem ok_Walker_go {f : Addr} {fd : FuncData} (F : FunD K "go" "Walker.go" (defArgs (inClass (top 59) 3)) (defBody (inClass (top 59) 3)) (defScope (inClass (top 59) 3)) [] [] f fd) (T : Tp K mg)  (h_is_whole : H_is_whole P w K mg base) (h_Presser_size : H_Presser_size P w K mg base) : FnOk P w K mg base (CX0) 6 f fd ["self", "number"] (sp_Walker_go K) := by
  refine F.ok sc_Walker_go (fun vs H Q E h => by (obtain ⟨_, _, _, _, _, _, _, rfl, _⟩ := h; rfl)) (fun cdv A outer s H vs Q E hr h => ?_)
  obtain ⟨v, e, l, p, n, m, j, rfl, ⟨dx, hv⟩, hp, hpk, hj, k⟩ := h
  refine ⟨_, PSs.nox (pss_cons (ps_if (pt_not (pt_val (pwhole h_is_whole hr rfl (pa_cons (pv 1) pa_nil) (pk_cons (pmeth0 h_Presser_size (pe_fld (pv 0) rfl) hr) pk_nil)))) (pss_one ps_never) pss_nil) (pss_one (ps_fld (pv 0) (pv 1) rfl))), ?_⟩
  have hp0 := hp
  obtain ⟨⟨dy, r, h1⟩, h2⟩ := hp
  refine ⟨_, rfl, _, rfl, v, _, _, _, _, rfl, hv, T.clWal, T.naWal1, waF_1 _ _, e, dy, _, rfl, h1, prF_no _ _ _ (by decide +kernel) (by decide +kernel) (by decide +kernel), e, l, p, m, rfl, hp0, hpk, fun H1 e1 => ⟨rfl, rfl, whole_yes (by omega) (by omega) fun H2 e2 => ⟨true, rfl, iteF ?_⟩⟩⟩
  have e02 := e1.trans e2
  refine ⟨_, rfl, _, rfl, v, _, dx, _, rfl, e02 _ _ hv, T.clWal, T.naWal2, waF_len _ _, ?_⟩
  exact k _ ⟨dx, by rw [upd_same, waF_put]⟩ ((Kp.of e02).at)
theorem sc_Walker_reads : FnScope ["self", "many"] ["self", "many"] (defScope (inClass (top 59) 5)) := ⟨rfl, rfl, rfl, by decide +kernel, rfl, by decide +kernel, by decide +kernel⟩
def H_Walker_reads (P : Program) (w : World) (K : PySem.W.Frag) (mg : Str → Option Value) (base : Heap) : Prop := HasM P w K mg base (CX0) 6 "Walker" "reads" ["self", "many"] (sp_Walker_reads K)
theorem ok_Walker_reads {f : Addr} {fd : FuncData} (F : FunD K "reads" "Walker.reads" (defArgs (inClass (top 59) 5)) (defBody (inClass (top 59) 5)) (defScope (inClass (top 59) 5)) [] [] f fd) (T : Tp K mg)  (h_is_whole : H_is_whole P w K mg base) (h_Presser_size : H_Presser_size P w K mg base) (h_window : H_window P w K mg base) (h_Walker_own_presses : H_Walker_own_presses P w K mg base) : FnOk P w K mg base (CX0) 6 f fd ["self", "many"] (sp_Walker_reads K) := by
  refine F.ok sc_Walker_reads (fun vs H Q E h => by (obtain ⟨_, _, _, _, _, _, _, rfl, _⟩ := h; rfl)) (fun cdv A outer s H vs Q E hr h => ?_)
  obtain ⟨v, e, l, p, n, m, j, rfl, ⟨dx, hv⟩, hp, hpk, hj, hnj, hbig, k⟩ := h
  refine ⟨_, PSs.nox (pss_cons (ps_if (pt_not (pt_val (pwhole h_is_whole hr rfl (pa_cons (pv 1) pa_nil) (pk_cons (pe_callB (call_min2 rfl) (by rfl) T.min (by decide +kernel) (pa_cons (pglobI rfl T.cWindow) (pa_cons (pe_op op_sub (pmeth0 h_Presser_size (pe_fld (pv 0) rfl) hr) (pe_fld (pv 0) rfl)) pa_nil))) pk_nil)))) (pss_one ps_never) pss_nil) (pss_one (ps_ret (pcall h_window hr rfl (pa_cons (pmeth0 h_Walker_own_presses (pv 0) hr) (pa_cons (pe_fld (pv 0) rfl) (pa_cons (pv 1) pa_nil))))))), ?_⟩
  have hp0 := hp
  obtain ⟨⟨dy, r, h1⟩, h2⟩ := hp
  refine ⟨_, rfl, _, rfl, v, _, _, _, _, rfl, hv, T.clWal, T.naWal1, waF_1 _ _, e, dy, _, rfl, h1, prF_no _ _ _ (by decide +kernel) (by decide +kernel) (by decide +kernel), e, l, p, m, rfl, hp0, hpk, fun H1 e1 => ?_⟩
  refine ⟨_, rfl, v, _, _, _, _, rfl, e1 _ _ hv, T.clWal, T.naWal2, waF_2 _ _, _, _, rfl, rfl, _, _, rfl, rfl, rfl, whole_yes (by omega) (by split <;> omega) fun H2 e2 => ⟨true, rfl, iteF ?_⟩⟩
  have e02 := e1.trans e2
  refine ⟨_, rfl, v, dx, _, rfl, e02 _ _ hv, waF_no _ _ (by decide +kernel) (by decide +kernel), v, e, l, p, n, m, rfl, ⟨dx, e02 _ _ hv⟩, hp0.ex e02, fun H3 e3 => ?_⟩
  refine ⟨_, rfl, v, _, _, _, _, rfl, e3 _ _ (e02 _ _ hv), T.clWal, T.naWal2, waF_2 _ _, _, rfl, p, n, j, rfl, hpk, hj, hnj, hbig, fun H4 e4 => k H4 ((e02.trans e3).trans e4)⟩
end
end Mw
end
section
set_option Elab.async false
set_option linter.all false
set_option maxRecDepth 100000
set_option maxHeartbeats 4000000
/-! press: gone_to, next_of, last_of (they may refuse) -/
namespace Mw
open PySem PySem.Spec PyProof.Rows L2 Mir Mr
section
variable {P : Program} {w : World} {K : Frag} {mg : Str → Option Value} {base : Heap}
theorem sc_Walker_gone_to : FnScope ["self", "piece", "number"] ["self", "piece", "number"] (defScope (inClass (top 59) 8)) := ⟨rfl, rfl, rfl, by decide +kernel, rfl, by decide +kernel, by decide +kernel⟩
def H_Walker_gone_to (P : Program) (w : World) (K : PySem.W.Frag) (mg : Str → Option Value) (base : Heap) : Prop := HasM P w K mg base ((L2.CX P w)) 8 "Walker" "gone_to" ["self", "piece", "number"] (sp_Walker_gone_to K)
theorem ok_Walker_gone_to {f : Addr} {fd : FuncData} (F : FunD K "gone_to" "Walker.gone_to" (defArgs (inClass (top 59) 8)) (defBody (inClass (top 59) 8)) (defScope (inClass (top 59) 8)) [] [] f fd) (T : Tp K mg) (G : Tg K mg) (h_how_often : H_how_often P w K mg base) (h_Walker_own_presses : H_Walker_own_presses P w K mg base) (h_place_at : H_place_at P w K mg base) : FnOk P w K mg base ((L2.CX P w)) 8 f fd ["self", "piece", "number"] (sp_Walker_gone_to K) := by
  refine F.ok sc_Walker_gone_to (fun vs H Q E h => by (obtain ⟨_, _, _, _, _, _, _, _, rfl, _⟩ := h; rfl)) (fun cdv A outer s H vs Q E hr h => ?_)
  obtain ⟨v, e, l, p, z, n, m, i, rfl, hg, hgo⟩ := h
  refine ⟨_, (pss_cons (ps_if (pt_not (pt_chain op_le op_lt pe_int (pv 2) (pcall h_how_often hr rfl (pa_cons (pmeth0 h_Walker_own_presses (pv 0) hr) (pa_cons (pv 1) pa_nil))))) (pss_one (ps_raise rfl (takes_of rfl rfl rfl rfl) (pmk_own PySem.F.excBase_LookupError G.xG G.gG G.kG (raises_own G.bG G.tG) rfl))) pss_nil) (pss_cons (ps_fld (pv 0) (pcall h_place_at hr rfl (pa_cons (pmeth0 h_Walker_own_presses (pv 0) hr) (pa_cons (pv 1) (pa_cons (pv 2) pa_nil)))) rfl) (pss_one (ps_ret (pe_fld (pv 0) rfl))))), ?_⟩
  have hg0 := hg
  obtain ⟨⟨dx, hv⟩, hp, hpk, hz, hzl, ho⟩ := hg
  refine ⟨_, rfl, _, _, rfl, rfl, _, rfl, ite2 (fun h0 => ?_) (fun h0 => ?_)⟩
  · have h0 : 0 ≤ i := of_decide_eq_true h0
    refine ⟨_, rfl, v, dx, _, rfl, hv, waF_no _ _ (by decide +kernel) (by decide +kernel), v, e, l, p, n, m, rfl, ⟨dx, hv⟩, hp, fun H1 e1 => ⟨_, rfl, p, z, rfl, hpk, hz, hzl, ho, fun H2 e2 => ?_⟩⟩
    have e02 := e1.trans e2
    refine ⟨_, _, rfl, rfl, _, rfl, ?_⟩
    by_cases hi : i < ((occs p z).length : Nat)
    · refine ifF (by rw [decide_eq_true hi]; rfl) ?_
      have hn : i.toNat < (occs p z).length := by omega
      obtain ⟨o, hoo⟩ : ∃ o, (occs p z)[i.toNat]? = some o := ⟨_, List.getElem?_eq_getElem hn⟩
      have ei : (i.toNat : Int) = i := by omega
      refine ⟨_, rfl, v, dx, _, rfl, e02 _ _ hv, waF_no _ _ (by decide +kernel) (by decide +kernel), v, e, l, p, n, m, rfl, ⟨dx, e02 _ _ hv⟩, hp.ex e02, fun H3 e3 => ⟨_, rfl, _, rfl, p, z, i.toNat, o, by rw [ei]; rfl, hpk, hz, hzl, hoo, fun H4 e4 => ?_⟩⟩
      have e04 := (e02.trans e3).trans e4
      refine ⟨_, rfl, v, _, dx, _, rfl, e04 _ _ hv, T.clWal, T.naWal2, waF_len _ _, ?_⟩
      have hw : upd H4 v (.ins (cWal K) dx (putF "own_stand" (.int (o : Nat)) (waF e n))) v = some (.ins (cWal K) dx (waF e o)) := by rw [upd_same, waF_put]
      refine ⟨_, rfl, v, _, _, _, _, rfl, hw, T.clWal, T.naWal2, waF_2 _ _, ?_⟩
      exact hgo.1 o _ h0 hoo ⟨dx, hw⟩ ((Kp.of e04).at)
    · refine ifT (by rw [decide_eq_false hi]; rfl) ?_
      exact hgo.2 (fun q => hi q.2) H2 e02
  · have h0 : ¬ 0 ≤ i := fun q => h0 (decide_eq_true q)
    refine ⟨_, rfl, ifT rfl ?_⟩
    exact hgo.2 (fun q => h0 q.1) H (Evl.Ex.refl H)
theorem sc_Walker_next_of : FnScope ["self", "piece"] ["self", "piece"] (defScope (inClass (top 59) 9)) := ⟨rfl, rfl, rfl, by decide +kernel, rfl, by decide +kernel, by decide +kernel⟩
def H_Walker_next_of (P : Program) (w : World) (K : PySem.W.Frag) (mg : Str → Option Value) (base : Heap) : Prop := HasM P w K mg base ((L2.CX P w)) 9 "Walker" "next_of" ["self", "piece"] (sp_Walker_next_of K)
theorem ok_Walker_next_of {f : Addr} {fd : FuncData} (F : FunD K "next_of" "Walker.next_of" (defArgs (inClass (top 59) 9)) (defBody (inClass (top 59) 9)) (defScope (inClass (top 59) 9)) [] [] f fd) (T : Tp K mg)  (h_Walker_gone_to : H_Walker_gone_to P w K mg base) (h_stand_ahead : H_stand_ahead P w K mg base) (h_Walker_own_presses : H_Walker_own_presses P w K mg base) : FnOk P w K mg base ((L2.CX P w)) 9 f fd ["self", "piece"] (sp_Walker_next_of K) := by
  refine F.ok sc_Walker_next_of (fun vs H Q E h => by (obtain ⟨_, _, _, _, _, _, _, rfl, _⟩ := h; rfl)) (fun cdv A outer s H vs Q E hr h => ?_)
  obtain ⟨v, e, l, p, z, n, m, rfl, hg, hn, hgo⟩ := h
  refine ⟨_, (pss_one (ps_ret (pmethX h_Walker_gone_to (passes_call (W := fun cls d _ H => E cls d H) (takes_of rfl rfl rfl rfl) (fun _ _ _ _ q => q)) (pv 0) hr (pa_cons (pv 1) (pa_cons (pcall h_stand_ahead hr rfl (pa_cons (pmeth0 h_Walker_own_presses (pv 0) hr) (pa_cons (pv 1) (pa_cons (pe_op op_add (pe_fld (pv 0) rfl) pe_int) pa_nil)))) pa_nil))))), ?_⟩
  have hg0 := hg
  obtain ⟨⟨dx, hv⟩, hp, hpk, hz, hzl, ho⟩ := hg
  have hno : (waF e n).lookup ("own_presses" : Str) = none := waF_no _ _ (by decide +kernel) (by decide +kernel)
  refine ⟨_, rfl, v, dx, _, rfl, hv, waF_no _ _ (by decide +kernel) (by decide +kernel), _, rfl, _, rfl, v, dx, _, rfl, hv, hno, v, e, l, p, n, m, rfl, ⟨dx, hv⟩, hp, fun H1 e1 => ?_⟩
  refine ⟨_, rfl, _, rfl, v, _, _, _, _, rfl, e1 _ _ hv, T.clWal, T.naWal2, waF_2 _ _, _, _, rfl, rfl, p, z, n + 1, rfl, hpk, hz, hzl, ho, by omega, fun H2 e2 => ?_⟩
  exact ⟨v, e, l, p, z, n, m, _, rfl, hg0.ex (e1.trans e2), hgo.ex (e1.trans e2)⟩
theorem sc_Walker_last_of : FnScope ["self", "piece"] ["self", "piece"] (defScope (inClass (top 59) 10)) := ⟨rfl, rfl, rfl, by decide +kernel, rfl, by decide +kernel, by decide +kernel⟩
def H_Walker_last_of (P : Program) (w : World) (K : PySem.W.Frag) (mg : Str → Option Value) (base : Heap) : Prop := HasM P w K mg base ((L2.CX P w)) 9 "Walker" "last_of" ["self", "piece"] (sp_Walker_last_of K)
theorem ok_Walker_last_of {f : Addr} {fd : FuncData} (F : FunD K "last_of" "Walker.last_of" (defArgs (inClass (top 59) 10)) (defBody (inClass (top 59) 10)) (defScope (inClass (top 59) 10)) [] [] f fd) (T : Tp K mg)  (h_Walker_gone_to : H_Walker_gone_to P w K mg base) (h_stand_ahead : H_stand_ahead P w K mg base) (h_Walker_own_presses : H_Walker_own_presses P w K mg base) : FnOk P w K mg base ((L2.CX P w)) 9 f fd ["self", "piece"] (sp_Walker_last_of K) := by
  refine F.ok sc_Walker_last_of (fun vs H Q E h => by (obtain ⟨_, _, _, _, _, _, _, rfl, _⟩ := h; rfl)) (fun cdv A outer s H vs Q E hr h => ?_)
  obtain ⟨v, e, l, p, z, n, m, rfl, hg, hn, hgo⟩ := h
  refine ⟨_, (pss_one (ps_ret (pmethX h_Walker_gone_to (passes_call (W := fun cls d _ H => E cls d H) (takes_of rfl rfl rfl rfl) (fun _ _ _ _ q => q)) (pv 0) hr (pa_cons (pv 1) (pa_cons (pe_op op_sub (pcall h_stand_ahead hr rfl (pa_cons (pmeth0 h_Walker_own_presses (pv 0) hr) (pa_cons (pv 1) (pa_cons (pe_fld (pv 0) rfl) pa_nil)))) pe_int) pa_nil))))), ?_⟩
  have hg0 := hg
  obtain ⟨⟨dx, hv⟩, hp, hpk, hz, hzl, ho⟩ := hg
  have hno : (waF e n).lookup ("own_presses" : Str) = none := waF_no _ _ (by decide +kernel) (by decide +kernel)
  refine ⟨_, rfl, v, dx, _, rfl, hv, waF_no _ _ (by decide +kernel) (by decide +kernel), _, rfl, _, rfl, v, dx, _, rfl, hv, hno, v, e, l, p, n, m, rfl, ⟨dx, hv⟩, hp, fun H1 e1 => ?_⟩
  refine ⟨_, rfl, _, rfl, v, _, _, _, _, rfl, e1 _ _ hv, T.clWal, T.naWal2, waF_2 _ _, p, z, n, rfl, hpk, hz, hzl, ho, by omega, fun H2 e2 => ?_⟩
  exact ⟨_, _, rfl, rfl, v, e, l, p, z, n, m, _, rfl, hg0.ex (e1.trans e2), hgo.ex (e1.trans e2)⟩
end
end Mw
end
section
set_option Elab.async false
set_option linter.all false
set_option maxRecDepth 100000
set_option maxHeartbeats 4000000
/-! the law's draws -/
namespace Mw
open PySem PySem.Spec PyProof.Rows L2 Mir Mr
/-! rules with K written out, for comprehensions -/
theorem ix_listK {X : Cx} {K : Frag} (h : X.K = K) : IxR X (rIxL K) := by subst h; exact ix_list
def rLenK (K : Frag) : List V → Hp → VK → Prop := fun xs H Q => ∃ p ys, xs = [.ref p] ∧ (SqL K H p ys ∨ SqT K H p ys) ∧ Q (.int ys.length) H
theorem lenK {X : Cx} {K : Frag} (h : X.K = K) : CallR X (.builtin "len") (rLenK K) := by subst h; exact call_len_seq
theorem sq_kp {K : Frag} {H H' : Hp} {a c : Addr} {xs : List V} {kvs : List (Key × V)} (h : SqL K H a xs) (hc : H c = some (.dK kvs)) (e : Kp c H H') : SqL K H' a xs := by
  rcases h with h | h
  · left
    rcases h with h | ⟨o, h⟩
    · exact .inl (e _ _ h fun z => by rw [z, hc] at h; cases h)
    · exact .inr ⟨o, e _ _ h fun z => by rw [z, hc] at h; cases h⟩
  · exact .inr h
/-- what draws are made by -/
def stK (left : Int) (a : Addr) (pace turn : Int) : List (Key × V) := [(.inr "left", .int left), (.inr "cells", .ref a), (.inr "pace", .int pace), (.inr "turn", .int turn)]
theorem q12 : ¬ (("left" : Str) = "cells") := by decide +kernel
theorem q13 : ¬ (("left" : Str) = "pace") := by decide +kernel
theorem q14 : ¬ (("left" : Str) = "turn") := by decide +kernel
theorem q23 : ¬ (("cells" : Str) = "pace") := by decide +kernel
theorem q24 : ¬ (("cells" : Str) = "turn") := by decide +kernel
theorem q34 : ¬ (("pace" : Str) = "turn") := by decide +kernel
theorem inr_ne {a b : Str} (h : ¬ a = b) : ¬ ((Sum.inr a : Key) = Sum.inr b) := fun z => h (Sum.inr.inj z)
section
variable {left : Int} {a : Addr} {pace turn : Int}
theorem stK_left : valV (stK left a pace turn) (.inr "left") = some (.int left) := valV_pos rfl
theorem stK_cells : valV (stK left a pace turn) (.inr "cells") = some (.ref a) := (valV_neg (inr_ne q12)).trans (valV_pos rfl)
theorem stK_pace : valV (stK left a pace turn) (.inr "pace") = some (.int pace) := (valV_neg (inr_ne q13)).trans ((valV_neg (inr_ne q23)).trans (valV_pos rfl))
theorem stK_turn : valV (stK left a pace turn) (.inr "turn") = some (.int turn) := (valV_neg (inr_ne q14)).trans ((valV_neg (inr_ne q24)).trans ((valV_neg (inr_ne q34)).trans (valV_pos rfl)))
theorem stK_put1 (v : Int) : putK (stK left a pace turn) (.inr "left") (.int v) = stK v a pace turn := by
  unfold putK
  have h : ((stK left a pace turn).any fun kv => decide (kv.1 = Sum.inr ("left" : Str))) = true := by rw [valV_any, stK_left]; rfl
  rw [if_pos h]
  show [_, _, _, _] = _
  dsimp only
  rw [if_pos rfl, if_neg (inr_ne (Ne.symm q12)), if_neg (inr_ne (Ne.symm q13)), if_neg (inr_ne (Ne.symm q14))]
  rfl
theorem stK_put3 (v : Int) : putK (stK left a pace turn) (.inr "pace") (.int v) = stK left a v turn := by
  unfold putK
  have h : ((stK left a pace turn).any fun kv => decide (kv.1 = Sum.inr ("pace" : Str))) = true := by rw [valV_any, stK_pace]; rfl
  rw [if_pos h]
  show [_, _, _, _] = _
  dsimp only
  rw [if_pos rfl, if_neg (inr_ne q13), if_neg (inr_ne q23), if_neg (inr_ne (Ne.symm q34))]
  rfl
theorem stK_put4 (v : Int) : putK (stK left a pace turn) (.inr "turn") (.int v) = stK left a pace v := by
  unfold putK
  have h : ((stK left a pace turn).any fun kv => decide (kv.1 = Sum.inr ("turn" : Str))) = true := by rw [valV_any, stK_turn]; rfl
  rw [if_pos h]
  show [_, _, _, _] = _
  dsimp only
  rw [if_pos rfl, if_neg (inr_ne q14), if_neg (inr_ne q24), if_neg (inr_ne q34)]
  rfl
end
theorem put_new (kvs : List (Key × V)) (x : Str) (v : V) (hx : valV kvs (Sum.inr x) = none) : putK kvs (Sum.inr x) v = kvs ++ [((Sum.inr x : Key), v)] := by
  unfold putK
  rw [valV_any, hx]
  rfl
abbrev kk (x : Str) : Key := Sum.inr x
theorem merge_st (left pace turn : Int) (a : Addr) : mergeK [] [(kk "left", V.int left), (kk "cells", .ref a), (kk "pace", .int pace), (kk "turn", .int turn)] = stK left a pace turn := by
  have e1 : putK [] (kk "left") (V.int left) = [(kk "left", V.int left)] := put_new [] "left" _ rfl
  have e2 : putK [(kk "left", V.int left)] (kk "cells") (V.ref a) = [(kk "left", V.int left), (kk "cells", .ref a)] := put_new _ "cells" _ ((valV_neg (inr_ne q12)).trans rfl)
  have e3 : putK [(kk "left", V.int left), (kk "cells", .ref a)] (kk "pace") (V.int pace) = [(kk "left", V.int left), (kk "cells", .ref a), (kk "pace", .int pace)] := put_new _ "pace" _ ((valV_neg (inr_ne q13)).trans ((valV_neg (inr_ne q23)).trans rfl))
  have e4 : putK [(kk "left", V.int left), (kk "cells", .ref a), (kk "pace", .int pace)] (kk "turn") (V.int turn) = stK left a pace turn := put_new _ "turn" _ ((valV_neg (inr_ne q14)).trans ((valV_neg (inr_ne q24)).trans ((valV_neg (inr_ne q34)).trans rfl)))
  show putK (putK (putK (putK [] (kk "left") (V.int left)) (kk "cells") (V.ref a)) (kk "pace") (V.int pace)) (kk "turn") (V.int turn) = _
  rw [e1, e2, e3, e4]
def StAt (H : Hp) (sd : Addr) : Prop := ∃ (left pace turn : Int) (a : Addr) (cs : List Int), H sd = some (.dK (stK left a pace turn)) ∧ H a = some (.lst (cs.map V.int)) ∧ cs.length = 9 ∧ 0 ≤ left ∧ 0 ≤ pace ∧ pace < 2 ^ 32 ∧ 0 ≤ turn
theorem StAt.ex {H H' : Hp} {sd : Addr} (h : StAt H sd) (e : Evl.Ex H H') : StAt H' sd := by
  obtain ⟨l, p, t, a, cs, h1, h2, h3⟩ := h
  exact ⟨l, p, t, a, cs, e _ _ h1, e _ _ h2, h3⟩
theorem StAt.ne {H : Hp} {sd c : Addr} {o : HO} (h : StAt H sd) (hc : H c = some o) (hn : ∀ kvs, o ≠ .dK kvs) : sd ≠ c := by
  obtain ⟨l, p, t, a, cs, h1, _⟩ := h
  intro z
  rw [z, hc] at h1
  exact hn _ (Option.some.inj h1)
theorem StAt.dk {H : Hp} {sd : Addr} (h : StAt H sd) : ∃ kvs, H sd = some (.dK kvs) := by
  obtain ⟨l, p, t, a, cs, h1, _⟩ := h
  exact ⟨_, h1⟩
theorem fm (a b : Int) (h : 0 < b) : 0 ≤ a.fmod b ∧ a.fmod b < b := by
  rw [Int.fmod_eq_emod_of_nonneg _ (Int.le_of_lt h)]
  exact ⟨Int.emod_nonneg _ (by omega), Int.emod_lt_of_pos _ h⟩
theorem fd0 (a b : Int) (ha : 0 ≤ a) (h : 0 < b) : 0 ≤ a.fdiv b := by
  rw [Int.fdiv_eq_ediv_of_nonneg _ (Int.le_of_lt h)]
  exact Int.ediv_nonneg ha (Int.le_of_lt h)
def sp__law_mixed (K : Frag) : Sp := fun vs H Q _ => ∃ c k : Int, vs = [.int c, .int k] ∧ 0 ≤ k ∧ k ≤ 100 ∧ ∀ r : Int, 0 ≤ r → RetV (.int r) H Q
def sp__law_state (K : Frag) : Sp := fun vs H Q _ => ∃ (a : Addr) (ns : List Int) (n : Nat), vs = [.ref a, .int n] ∧ SqL K H a (ns.map V.int) ∧ n ≤ 18 ∧ ∀ sd H', H sd = none → Evl.Ex H H' → StAt H' sd → Q (.ref sd) H'
def sp__law_draw (K : Frag) : Sp := fun vs H Q _ => ∃ (sd : Addr) (t : Int), vs = [.ref sd, .int t] ∧ StAt H sd ∧ 1 ≤ t ∧ t < 2 ^ 30 ∧ ∀ (r : Int) H', 0 ≤ r → r < t → StAt H' sd → Kp sd H H' → Q (.int r) H'
def sp__law_of (K : Frag) : Sp := fun vs H Q _ => ∃ (sd a : Addr) (xs : List V), vs = [.ref sd, .ref a] ∧ StAt H sd ∧ SqL K H a xs ∧ xs ≠ [] ∧ xs.length ≤ 1000 ∧ ∀ x H', x ∈ xs → StAt H' sd → Kp sd H H' → Q x H'
def sp__law_great (K : Frag) : Sp := fun vs H Q _ => ∃ (sd : Addr) (t : Int), vs = [.ref sd, .int t] ∧ StAt H sd ∧ 1 ≤ t ∧ ∀ (r : Int) H', 0 ≤ r → r < t → StAt H' sd → Kp sd H H' → Q (.int r) H'
section
variable {P : Program} {w : World} {K : Frag} {mg : Str → Option Value} {base : Heap}
theorem sc__law_mixed : FnScope ["_law_cell", "_law_k", "_law_found"] ["_law_cell", "_law_k"] (defScope (top 62)) := ⟨rfl, rfl, rfl, by decide +kernel, rfl, by decide +kernel, by decide +kernel⟩
def H__law_mixed (P : Program) (w : World) (K : PySem.W.Frag) (mg : Str → Option Value) (base : Heap) : Prop := Has P w K mg base (CX0) 1 "_law_mixed" ["_law_cell", "_law_k"] (sp__law_mixed K)
theorem ok__law_mixed {f : Addr} {fd : FuncData} (F : FunD K "_law_mixed" "_law_mixed" (defArgs (top 62)) (defBody (top 62)) (defScope (top 62)) [] [] f fd) (T : Tp K mg)   : FnOk P w K mg base (CX0) 1 f fd ["_law_cell", "_law_k"] (sp__law_mixed K) := by
  refine F.ok sc__law_mixed (fun vs H Q E h => by (obtain ⟨_, _, rfl, _⟩ := h; rfl)) (fun cdv A outer s H vs Q E hr h => ?_)
  obtain ⟨c, j, rfl, h0, h1, k⟩ := h
  refine ⟨_, PSs.nox (pss_cons (ps_set (i := 2) sc__law_mixed.nd rfl (Or.inl rfl) (pe_op op_modN (pe_op op_mul (pe_op op_add (pe_op op_add (pe_op op_add (pe_op op_modN (pv 0) pe_int) (pe_op op_mul (pe_op op_mul pe_int (pv 1)) (pv 1))) (pe_op op_mul pe_int (pv 1))) pe_int) pe_int) pe_int)) (pss_one (ps_ret (pe_op op_fdivN (pe_op op_modN (pe_op op_mul (pv 2) (pe_op op_add (pe_op op_add (pv 2) (pe_op op_mul pe_int (pv 1))) pe_int)) pe_int) pe_int)))), ?_⟩
  refine ⟨_, rfl, _, _, rfl, rfl, (fun z => absurd z (by decide)), _, rfl, _, _, rfl, rfl, .inl (by decide), _, rfl, _, _, rfl, rfl, .inr ⟨by omega, by omega⟩, _, _, rfl, rfl, _, rfl, _, _, rfl, rfl, .inl (by decide), _, _, rfl, rfl, _, _, rfl, rfl, _, _, rfl, rfl, .inr (by decide), _, _, rfl, rfl, (fun z => absurd z (by decide)), ?_⟩
  generalize ((c.fmod 2147483629 + 7919 * j * j + 104729 * j + 17) * 48271) = x
  obtain ⟨f0, f1⟩ := fm x 2147483647 (by decide)
  generalize hf : x.fmod 2147483647 = f at f0 f1
  simp only [hf]
  refine ⟨_, rfl, _, rfl, _, rfl, _, _, rfl, rfl, .inl (by decide), _, _, rfl, rfl, _, _, rfl, rfl, _, _, rfl, rfl, .inl ⟨by omega, by omega⟩, _, _, rfl, rfl, (fun z => absurd z (by decide)), _, _, rfl, rfl, ⟨(fun z => absurd z (by decide)), by decide⟩, ?_⟩
  exact k _ (fd0 _ _ (fm _ _ (by decide)).1 (by decide)) H (Evl.Ex.refl H)
theorem sc__law_draw : FnScope ["_law_state_here", "_law_top", "_law_found", "_law_k", "_law_pace"] ["_law_state_here", "_law_top"] (defScope (top 64)) := ⟨rfl, rfl, rfl, by decide +kernel, rfl, by decide +kernel, by decide +kernel⟩
def H__law_draw (P : Program) (w : World) (K : PySem.W.Frag) (mg : Str → Option Value) (base : Heap) : Prop := Has P w K mg base (CX0) 2 "_law_draw" ["_law_state_here", "_law_top"] (sp__law_draw K)
theorem ok__law_draw {f : Addr} {fd : FuncData} (F : FunD K "_law_draw" "_law_draw" (defArgs (top 64)) (defBody (top 64)) (defScope (top 64)) [] [] f fd) (T : Tp K mg)  (h__law_mixed : H__law_mixed P w K mg base) : FnOk P w K mg base (CX0) 2 f fd ["_law_state_here", "_law_top"] (sp__law_draw K) := by
  refine F.ok sc__law_draw (fun vs H Q E h => by (obtain ⟨_, _, rfl, _⟩ := h; rfl)) (fun cdv A outer s H vs Q E hr h => ?_)
  obtain ⟨sd, t, rfl, ⟨left, pace, turn, a, cs, hs, ha, hcl, hl0, hp0, hp1, ht0⟩, h1, h2, k⟩ := h
  refine ⟨_, PSs.nox (pss_cons (ps_if (pt_cmpR op_gt (pe_dget (hu_of hr) (pv 0) pe_str (fun _ _ => rfl)) pe_int (nomark _)) (pss_cons (ps_set (i := 2) sc__law_draw.nd rfl (Or.inl rfl) (pe_op op_modN (pe_dget (hu_of hr) (pv 0) pe_str (fun _ _ => rfl)) (pv 1))) (pss_cons (ps_dput (hu_of hr) (pv 0) pe_str (pe_op op_fdivN (pe_dget (hu_of hr) (pv 0) pe_str (fun _ _ => rfl)) (pv 1)) rfl) (pss_one (ps_ret (pv 2))))) pss_nil) (pss_cons (ps_set (i := 3) sc__law_draw.nd rfl (Or.inl rfl) (pe_dget (hu_of hr) (pv 0) pe_str (fun _ _ => rfl))) (pss_cons (ps_dput (hu_of hr) (pv 0) pe_str (pe_op op_add (pv 3) pe_int) rfl) (pss_cons (ps_set (i := 4) sc__law_draw.nd rfl (Or.inl rfl) (pe_op op_add (pe_op op_add (pe_op op_mul (pe_dget (hu_of hr) (pv 0) pe_str (fun _ _ => rfl)) pe_int) (pe_ix ix_list (pe_dget (hu_of hr) (pv 0) pe_str (fun _ _ => rfl)) (pe_op op_modN (pv 3) pe_int) (fun _ _ => rfl))) (pv 3))) (pss_cons (ps_dput (hu_of hr) (pv 0) pe_str (pe_op op_modN (pv 4) pe_int) rfl) (pss_one (ps_ret (pe_op op_modN (pcall h__law_mixed hr rfl (pa_cons (pcall h__law_mixed hr rfl (pa_cons (pe_dget (hu_of hr) (pv 0) pe_str (fun _ _ => rfl)) (pa_cons (pe_op op_modN (pv 3) pe_int) pa_nil))) (pa_cons (pe_op op_modN (pe_ix ix_list (pe_dget (hu_of hr) (pv 0) pe_str (fun _ _ => rfl)) (pe_op op_modN (pe_op op_add (pv 3) pe_int) pe_int) (fun _ _ => rfl)) pe_int) pa_nil))) (pv 1))))))))), ?_⟩
  have sa : sd ≠ a := fun z => by rw [z, ha] at hs; cases hs
  refine ⟨_, rfl, sd, _, rfl, (by rw [← stK_left (left := left) (a := a) (pace := pace) (turn := turn)]; exact DGet.k (k := .inr "left") hs), _, _, rfl, rfl, _, rfl, ite2 (fun hz => ?_) (fun hz => ?_)⟩
  · refine ⟨_, rfl, sd, _, rfl, (by rw [← stK_left (left := left) (a := a) (pace := pace) (turn := turn)]; exact DGet.k (k := .inr "left") hs), _, rfl, _, _, rfl, rfl, by omega, ?_⟩
    refine ⟨_, rfl, sd, _, rfl, (by rw [← stK_left (left := left) (a := a) (pace := pace) (turn := turn)]; exact DGet.k (k := .inr "left") hs), _, rfl, _, _, rfl, rfl, ⟨by omega, by omega⟩, _, rfl, sd, _, rfl, DPut.k (k := .inr "left") hs (by show 4 < sizeLine; decide), ?_⟩
    refine ⟨_, rfl, ?_⟩
    rw [stK_put1]
    exact k _ _ (fm _ _ (by omega)).1 (fm _ _ (by omega)).2 ⟨_, _, _, a, cs, upd_same, by rw [upd_ne (Ne.symm sa)]; exact ha, hcl, fd0 _ _ hl0 (by omega), hp0, hp1, ht0⟩ ((Kp.refl sd H).at)
  · refine ⟨_, rfl, sd, _, rfl, (by rw [← stK_turn (left := left) (a := a) (pace := pace) (turn := turn)]; exact DGet.k (k := .inr "turn") hs), ?_⟩
    refine ⟨_, rfl, _, _, rfl, rfl, _, rfl, sd, _, rfl, DPut.k (k := .inr "turn") hs (by show 4 < sizeLine; decide), ?_⟩
    rw [stK_put4]
    have h3 : upd H sd (.dK (stK left a pace (turn + 1))) sd = some (.dK (stK left a pace (turn + 1))) := upd_same
    have ha3 : upd H sd (.dK (stK left a pace (turn + 1))) a = some (.lst (cs.map V.int)) := by rw [upd_ne (Ne.symm sa)]; exact ha
    obtain ⟨k0, k1⟩ := fm turn 9 (by decide)
    obtain ⟨j0, j1⟩ := fm (turn + 3) 9 (by decide)
    have get : ∀ i : Int, 0 ≤ i → i < 9 → ∃ z : Int, atI (cs.map V.int) i = some (.int z) := fun i i0 i1 => by
      have hi : i.toNat < cs.length := by omega
      have e : (i.toNat : Int) = i := by omega
      rw [← e]
      exact ⟨cs[i.toNat], atI_nat (by rw [List.getElem?_map, List.getElem?_eq_getElem hi]; rfl)⟩
    obtain ⟨z1, hz1⟩ := get _ k0 k1
    obtain ⟨z2, hz2⟩ := get _ j0 j1
    refine ⟨_, rfl, sd, _, rfl, (by rw [← stK_pace (left := left) (a := a) (pace := pace) (turn := turn + 1)]; exact DGet.k (k := .inr "pace") h3), _, _, rfl, rfl, .inr (by decide), _, rfl, sd, _, rfl, (by rw [← stK_cells (left := left) (a := a) (pace := pace) (turn := turn + 1)]; exact DGet.k (k := .inr "cells") h3), _, rfl, _, _, rfl, rfl, (fun z => absurd z (by decide)),
      _, _, _, _, rfl, rfl, SqL.of ha3, hz1, _, _, rfl, rfl, _, rfl, _, _, rfl, rfl, ?_⟩
    refine ⟨_, rfl, _, _, rfl, rfl, (fun z => absurd z (by decide)), _, rfl, sd, _, rfl, DPut.k (k := .inr "pace") h3 (by show 4 < sizeLine; decide), ?_⟩
    simp only [stK_put3]
    obtain ⟨p0, p1⟩ := fm (pace * 48271 + z1 + turn) 2147483647 (by decide)
    generalize hpp : (pace * 48271 + z1 + turn).fmod 2147483647 = pp at p0 p1
    have h4 : upd (upd H sd (.dK (stK left a pace (turn + 1)))) sd (.dK (stK left a pp (turn + 1))) sd = some (.dK (stK left a pp (turn + 1))) := upd_same
    have ha4 : upd (upd H sd (.dK (stK left a pace (turn + 1)))) sd (.dK (stK left a pp (turn + 1))) a = some (.lst (cs.map V.int)) := by rw [upd_ne (Ne.symm sa)]; exact ha3
    have kp4 : Kp sd H (upd (upd H sd (.dK (stK left a pace (turn + 1)))) sd (.dK (stK left a pp (turn + 1)))) := ((Kp.refl sd H).at).at
    generalize upd (upd H sd (.dK (stK left a pace (turn + 1)))) sd (.dK (stK left a pp (turn + 1))) = H4 at *
    obtain ⟨m0, m1⟩ := fm turn 64 (by decide)
    obtain ⟨n0, n1⟩ := fm z2 64 (by decide)
    refine ⟨_, rfl, sd, _, rfl, (by rw [← stK_pace (left := left) (a := a) (pace := pp) (turn := turn + 1)]; exact DGet.k (k := .inr "pace") h4), _, rfl, _, _, rfl, rfl, (fun z => absurd z (by decide)), _, _, rfl, m0, by omega, fun r hr0 H5 e5 => ?_⟩
    refine ⟨_, rfl, sd, _, rfl, (by rw [← stK_cells (left := left) (a := a) (pace := pp) (turn := turn + 1)]; exact DGet.k (k := .inr "cells") (e5 _ _ h4)), _, rfl, _, _, rfl, rfl, _, _, rfl, rfl, (fun z => absurd z (by decide)), _, _, _, _, rfl, rfl, SqL.of (e5 _ _ ha4), hz2, _, _, rfl, rfl, (fun z => absurd z (by decide)),
      _, _, rfl, n0, by omega, fun r2 hr2 H6 e6 => ?_⟩
    refine ⟨_, rfl, _, _, rfl, rfl, by omega, ?_⟩
    have e46 := e5.trans e6
    exact k _ _ (fm _ _ (by omega)).1 (fm _ _ (by omega)).2 ⟨_, _, _, a, cs, e46 _ _ h4, e46 _ _ ha4, hcl, hl0, p0, by omega, by omega⟩ (kp4.ex e46)
theorem sc__law_of : FnScope ["_law_state_here", "_law_some"] ["_law_state_here", "_law_some"] (defScope (top 65)) := ⟨rfl, rfl, rfl, by decide +kernel, rfl, by decide +kernel, by decide +kernel⟩
def H__law_of (P : Program) (w : World) (K : PySem.W.Frag) (mg : Str → Option Value) (base : Heap) : Prop := Has P w K mg base (CX0) 3 "_law_of" ["_law_state_here", "_law_some"] (sp__law_of K)
theorem ok__law_of {f : Addr} {fd : FuncData} (F : FunD K "_law_of" "_law_of" (defArgs (top 65)) (defBody (top 65)) (defScope (top 65)) [] [] f fd) (T : Tp K mg)  (h__law_draw : H__law_draw P w K mg base) : FnOk P w K mg base (CX0) 3 f fd ["_law_state_here", "_law_some"] (sp__law_of K) := by
  refine F.ok sc__law_of (fun vs H Q E h => by (obtain ⟨_, _, _, rfl, _⟩ := h; rfl)) (fun cdv A outer s H vs Q E hr h => ?_)
  obtain ⟨sd, a, xs, rfl, hs, ha, hne, hlen, k⟩ := h
  refine ⟨_, PSs.nox (pss_one (ps_ret (pe_ix ix_list (pv 1) (pcall h__law_draw hr rfl (pa_cons (pv 0) (pa_cons (pe_callB call_len_seq (by rfl) T.len PySem.boot_len (pa_cons (pv 1) pa_nil)) pa_nil))) (fun _ _ => rfl)))), ?_⟩
  obtain ⟨kvs, hd⟩ := hs.dk
  have hpos : 1 ≤ xs.length := by cases xs with | nil => exact absurd rfl hne | cons x r => simp
  refine ⟨_, rfl, _, rfl, _, rfl, a, xs, rfl, .inl ha, sd, _, rfl, hs, by omega, by omega, fun r H' h0 h1 hs' kp => ?_⟩
  have hi : r.toNat < xs.length := by omega
  have e : (r.toNat : Int) = r := by omega
  have g : atI xs r = some xs[r.toNat] := by
    have := atI_nat (xs := xs) (j := r.toNat) (List.getElem?_eq_getElem hi)
    rwa [e] at this
  exact ⟨_, _, _, _, rfl, rfl, sq_kp ha hd kp, g, k _ H' (List.getElem_mem hi) hs' kp⟩
theorem sc__law_great : FnScope ["_law_state_here", "_law_top", "_law_found", "_law_k"] ["_law_state_here", "_law_top"] (defScope (top 68)) := ⟨rfl, rfl, rfl, by decide +kernel, rfl, by decide +kernel, by decide +kernel⟩
def H__law_great (P : Program) (w : World) (K : PySem.W.Frag) (mg : Str → Option Value) (base : Heap) : Prop := Has P w K mg base (CX0) 3 "_law_great" ["_law_state_here", "_law_top"] (sp__law_great K)
theorem ok__law_great {f : Addr} {fd : FuncData} (F : FunD K "_law_great" "_law_great" (defArgs (top 68)) (defBody (top 68)) (defScope (top 68)) [] [] f fd) (T : Tp K mg)  (h__law_draw : H__law_draw P w K mg base) : FnOk P w K mg base (CX0) 3 f fd ["_law_state_here", "_law_top"] (sp__law_great K) := by
  refine F.ok sc__law_great (fun vs H Q E h => by (obtain ⟨_, _, rfl, _⟩ := h; rfl)) (fun cdv A outer s H vs Q E hr h => ?_)
  obtain ⟨sd, t, rfl, hs, h1, k⟩ := h
  refine ⟨_, PSs.nox (pss_cons (ps_set (i := 2) sc__law_great.nd rfl (Or.inl rfl) pe_int) (pss_cons (ps_for PassesOwn.never rfl (pi_range1 rfl T.range (pa_cons pe_int pa_nil)) (pg_name (i := 3) sc__law_great.nd rfl (Or.inl rfl)) (pss_one (ps_set (i := 2) sc__law_great.nd rfl (Or.inl rfl) (pe_op op_add (pe_op op_mul (pv 2) (pe_op op_pow pe_int pe_int)) (pcall h__law_draw hr rfl (pa_cons (pv 0) (pa_cons (pe_op op_pow pe_int pe_int) pa_nil))))))) (pss_one (ps_ret (pe_op op_modN (pv 2) (pv 1)))))), ?_⟩
  refine ⟨8, rfl, by decide, by decide, ?_⟩
  refine for_it walk_range (fun i σ H' => Kp sd H H' ∧ StAt H' sd ∧ ∃ (f : Int) (x : Option V), σ = [some (.ref sd), some (.int t), some (.int f), x]) ?_ (fun _ _ _ _ _ => trivial) ?_ ?_
  · exact ⟨Kp.refl sd H, hs, 0, none, rfl⟩
  · rintro i v σ H1 H2 hi ⟨e1, hs1, f, x, rfl⟩ ⟨rfl, hv⟩
    refine ⟨_, rfl, _, _, rfl, rfl, ⟨by decide, by decide, by decide⟩, _, _, rfl, rfl, .inr (by decide), _, rfl, _, _, rfl, rfl, ⟨by decide, by decide, by decide⟩, sd, _, rfl, hs1, by decide, by decide, fun r H3 r0 r1 hs3 e3 => ?_⟩
    exact ⟨_, _, rfl, rfl, e1.trans e3, hs3, _, _, rfl⟩
  · rintro σ H1 ⟨e1, hs1, f, x, rfl⟩
    refine ⟨_, rfl, _, rfl, _, _, rfl, rfl, by omega, ?_⟩
    exact k _ H1 (fm _ _ (by omega)).1 (fm _ _ (by omega)).2 hs1 e1
theorem sc__law_state : FnScope ["_law_script", "_law_at", "_law_cells", "_law_k"] ["_law_script", "_law_at"] (defScope (top 63)) := ⟨rfl, rfl, rfl, by decide +kernel, rfl, by decide +kernel, by decide +kernel⟩
def H__law_state (P : Program) (w : World) (K : PySem.W.Frag) (mg : Str → Option Value) (base : Heap) : Prop := Has P w K mg base (CX0) 1 "_law_state" ["_law_script", "_law_at"] (sp__law_state K)
theorem ok__law_state {f : Addr} {fd : FuncData} (F : FunD K "_law_state" "_law_state" (defArgs (top 63)) (defBody (top 63)) (defScope (top 63)) [] [] f fd) (T : Tp K mg)   : FnOk P w K mg base (CX0) 1 f fd ["_law_script", "_law_at"] (sp__law_state K) := by
  refine F.ok sc__law_state (fun vs H Q E h => by (obtain ⟨_, _, _, rfl, _⟩ := h; rfl)) (fun cdv A outer s H vs Q E hr h => ?_)
  obtain ⟨a, ns, n, rfl, ha, hn, k⟩ := h
  refine ⟨_, PSs.nox (pss_cons (ps_setLc (i := 2) (own := [("_law_k", 3)]) (g := gName 3) (tt := tYes) rfl sc__law_state.nd rfl rfl (sw_true rfl rfl rfl (by decide +kernel)) (pi_range2 rfl T.range (pa_cons (pv 1) (pa_cons (pe_op op_add (pv 1) pe_int) pa_nil))) (blkOk_by (own := [("_law_k", 3)]) (N := ["_law_script", "_law_at", "_law_cells", "_law_k"]) (sc := defScope (top 63)) (by decide +kernel)) (fun _ _ _ _ _ => pg_name (i := 3) sc__law_state.nd rfl (Or.inl rfl)) (fun _ _ _ _ _ => pts_nil) (fun _ _ _ _ _ => (pe_ifExp (pt_cmpR op_lt (pv 3) (pe_callB (lenK (K := K) rfl) (by rfl) T.len PySem.boot_len (pa_cons (pv 0) pa_nil)) (nomark _)) (pe_ix (ix_listK (K := K) rfl) (pv 0) (pv 3) (fun _ _ => rfl)) (pv 3)))) (pss_one (ps_ret (pe_disp (pps_cons pe_str (pe_ifExp (pt_cmpR op_ge (pe_ix ix_list (pv 2) pe_int (fun _ _ => rfl)) (pe_op op_pow pe_int pe_int) (nomark _)) (pe_ix ix_list (pv 2) pe_int (fun _ _ => rfl)) pe_int) (pps_cons pe_str (pv 2) (pps_cons pe_str (pe_op op_add pe_int (pv 1)) (pps_cons pe_str pe_int pps_nil)))) (by rfl) (by rfl) (fun z => by cases z) (by decide))))), ?_⟩
  refine ⟨_, rfl, _, rfl, _, _, rfl, rfl, _, _, rfl, ⟨by omega, by omega, by omega, by omega⟩, fun D hD => ?_⟩
  have eT : ((n : Int) + 9 - (n : Int)).toNat = 9 := by omega
  refine lc_it walk_range (fun i H' => Evl.Ex H H' ∧ ∃ cs : List Int, cs.length = i ∧ H' D = some (.lst (cs.map V.int))) ?_ (fun _ _ _ _ => trivial) ?_ ?_
  · exact ⟨(Evl.Ex.refl H).mut hD, [], rfl, upd_same⟩
  · rintro i v H1 H2 hi ⟨e1, cs, hc, hd⟩ ⟨rfl, hv⟩
    rw [eT] at hi
    subst hv
    refine ⟨rfl, ?_⟩
    refine ⟨_, rfl, _, rfl, _, _, rfl, .inl (Evl.ex_l e1 ha), _, _, rfl, rfl, _, rfl, ite2 (fun hz => ?_) (fun hz => ?_)⟩
    · have hz : (n : Int) + (i : Nat) < ((ns.map V.int).length : Nat) := of_decide_eq_true hz
      have hi2 : n + i < (ns.map V.int).length := by omega
      have hi3 : n + i < ns.length := by rw [List.length_map] at hi2; exact hi2
      have e : ((n + i : Nat) : Int) = (n : Int) + (i : Nat) := by omega
      have g : atI (ns.map V.int) ((n : Int) + (i : Nat)) = some (.int ns[n + i]) := by
        rw [← e]
        refine atI_nat ?_
        rw [List.getElem?_eq_getElem hi2]; simp
      refine ⟨_, rfl, _, rfl, _, _, _, _, rfl, rfl, Evl.ex_l e1 ha, g, _, hd, Evl.sz_lt (by rw [List.length_map]; omega), e1.mut hD, cs ++ [ns[n + i]], by simp [hc], by rw [upd_same]; simp⟩
    · exact ⟨_, rfl, _, hd, Evl.sz_lt (by rw [List.length_map]; omega), e1.mut hD, cs ++ [(n : Int) + (i : Nat)], by simp [hc], by rw [upd_same]; simp⟩
  · rintro H1 ⟨e1, cs, hc, hd⟩
    rw [eT] at hc
    have h0 : atI (cs.map V.int) 0 = some (.int (cs.getD 0 0)) := by
      have hi : 0 < (cs.map V.int).length := by rw [List.length_map]; omega
      refine atI_nat (j := 0) ?_
      rw [List.getElem?_eq_getElem hi]
      have : 0 < cs.length := by omega
      simp [List.getD, this]
    have fin : ∀ left : Int, 0 ≤ left → ∀ p, H1 p = none → ∀ H2, H2 = upd (upd H1 p (.dK [])) p (.dK (mergeK [] [(.inr "left", .int left), (.inr "cells", .ref D), (.inr "pace", .int (7 + n)), (.inr "turn", .int 0)])) → Q (.ref p) H2 := by
      rintro left hl p hp H2 rfl
      have em := merge_st left (7 + n) 0 D
      rw [em]
      have Dp : D ≠ p := ne_of_none hd hp
      exact k p _ (Evl.fresh_back e1 hp) ((e1.mut (Evl.fresh_back e1 hp)).mut (Evl.fresh_back e1 hp)) ⟨left, 7 + n, 0, D, cs, upd_same, by rw [upd_ne Dp, upd_ne Dp]; exact hd, hc, hl, by omega, by omega, by omega⟩
    intro p hp
    have hdp : D ≠ p := ne_of_none hd hp
    have hd' : upd H1 p (.dK []) D = some (.lst (cs.map V.int)) := by rw [upd_ne hdp]; exact hd
    have rest : ∀ (left : Int), 0 ≤ left → ∀ σ : L2.St, σ[0]? = some (some (.ref a)) → σ[1]? = some (some (.int (n : Nat))) → σ[2]? = some (some (.ref D)) → True := fun _ _ _ _ _ _ => trivial
    refine ⟨_, rfl, _, _, _, _, rfl, rfl, SqL.of hd', h0, _, _, rfl, rfl, ⟨by decide, by decide, by decide⟩, _, _, rfl, rfl, _, rfl, ite2 (fun hz => ?_) (fun hz => ?_)⟩
    · have hz := of_decide_eq_true hz
      refine ⟨_, rfl, _, _, _, _, rfl, rfl, SqL.of hd', h0, _, rfl, _, rfl, _, _, rfl, rfl, upd_same, [(.inr "left", .int (cs.getD 0 0)), (.inr "cells", .ref D), (.inr "pace", .int (7 + n)), (.inr "turn", .int 0)], rfl, (by show 4 ≤ 15; decide), ?_⟩
      refine fin _ (Int.le_trans (by decide) hz) p hp _ rfl
    · refine ⟨_, rfl, _, rfl, _, _, rfl, rfl, upd_same, [(.inr "left", .int 0), (.inr "cells", .ref D), (.inr "pace", .int (7 + n)), (.inr "turn", .int 0)], rfl, (by show 4 ≤ 15; decide), ?_⟩
      exact fin 0 (Int.le_refl _) p hp _ rfl
end
end Mw
end
section
set_option Elab.async false
set_option linter.all false
set_option maxRecDepth 100000
set_option maxHeartbeats 4000000
/-! the law's rows and its own mirrors -/
namespace Mw
open PySem PySem.Spec PyProof.Rows L2 Mir Mr
theorem L_pow (v : Wd) : L v + 1 ≤ 2 ^ v.length := by
  refine snoc_ind (P := fun v => L v + 1 ≤ 2 ^ v.length) (by decide) (fun t x ih => ?_) v
  have := gr_le t x
  rw [L_snoc, List.length_append, List.length_singleton, Nat.pow_succ]
  omega
theorem L_lt {v : Wd} {n : Nat} (h : v.length ≤ n) : L v + 1 ≤ 2 ^ n := Nat.le_trans (L_pow v) (Nat.pow_le_pow_right (by decide) h)
theorem tx_flat (l : Wd) : ((l.map fun c => [c]).map tx).map V.str = l.map fun c => V.str (tx [c]) := by
  rw [List.map_map, List.map_map]; rfl
theorem tx_sum (l : Wd) : (List.map (fun x : Str => x.length) ((l.map fun c => [c]).map tx)).sum = l.length := by
  induction l with
  | nil => rfl
  | cons c l ih =>
    rw [List.map_cons, List.map_cons, List.map_cons, List.sum_cons, ih, tx_len]
    simp; omega
theorem empty_len : (Str.ofString "").length = 0 := by decide +kernel
theorem good_nil : Good [] := fun c hc => by cases hc
theorem pick {ls : Wd} {x : Int} (h0 : 0 ≤ x) (h1 : x < (ls.length : Nat)) : ∃ c, c ∈ ls ∧ atI (ls.map fun c => V.str (tx [c])) x = some (.str (tx [c])) := by
  obtain ⟨n, rfl⟩ : ∃ n : Nat, x = (n : Nat) := ⟨x.toNat, by omega⟩
  have hn : n < ls.length := by omega
  exact ⟨ls[n], List.getElem_mem hn, atI_nat (by rw [List.getElem?_map, List.getElem?_eq_getElem hn]; rfl)⟩
theorem pickL {x : Int} (h0 : 0 ≤ x) (h1 : x < 26) : ∃ c, 97 ≤ c ∧ c ≤ 122 ∧ atI (("abcdefghijklmnopqrstuvwxyz" : Str)).cps.toList x = some c := by
  obtain ⟨n, rfl⟩ : ∃ n : Nat, x = (n : Nat) := ⟨x.toNat, by omega⟩
  have hn : n < 26 := by omega
  refine ⟨97 + n, by omega, by omega, atI_nat ?_⟩
  rw [letters_list, List.getElem?_range' hn]
  simp
theorem one_good {c : Nat} (h1 : 97 ≤ c) (h2 : c ≤ 122) : Good [c] := fun d hd => by
  rw [List.mem_singleton.mp hd]
  exact ⟨h1, h2⟩
def sp__law_signs (K : Frag) : Sp := fun vs H Q _ => ∃ sd : Addr, vs = [.ref sd] ∧ StAt H sd ∧ ∀ (a : Addr) (ls : Wd) H', H a = none → H' a = some (.lst (ls.map fun c => V.str (tx [c]))) → ls ≠ [] → ls.length ≤ 4 → Good ls → StAt H' sd → Kp sd H H' → Q (.ref a) H'
def sp__law_row (K : Frag) : Sp := fun vs H Q _ => ∃ (sd a : Addr) (ls : Wd) (lo hi : Nat), vs = [.ref sd, .ref a, .int lo, .int hi] ∧ StAt H sd ∧ H a = some (.lst (ls.map fun c => V.str (tx [c]))) ∧ ls ≠ [] ∧ ls.length ≤ 4 ∧ Good ls ∧ lo ≤ hi ∧ hi ≤ 200 ∧
  ∀ (p : Wd) H', PrOk p → lo ≤ p.length → p.length ≤ hi → StAt H' sd → Kp sd H H' → Q (.str (tx p)) H'
def sp__law_closed (K : Frag) : Sp := fun vs H Q _ => ∃ p : Wd, vs = [.str (tx p)] ∧ PrOk p ∧ p.length ≤ 6 ∧ RetV (.str (tx (M p))) H Q
def sp__law_sizes (K : Frag) : Sp := fun vs H Q _ => ∃ p : Wd, vs = [.str (tx p)] ∧ PrOk p ∧ RetL (iV (lens p)) H Q
def sp__law_size (K : Frag) : Sp := fun vs H Q _ => ∃ p : Wd, vs = [.str (tx p)] ∧ PrOk p ∧ RetV (.int (L p : Nat)) H Q
section
variable {P : Program} {w : World} {K : Frag} {mg : Str → Option Value} {base : Heap}
theorem sc__law_signs : FnScope ["_law_state_here", "_law_first", "_law_step", "_law_k"] ["_law_state_here"] (defScope (top 66)) := ⟨rfl, rfl, rfl, by decide +kernel, rfl, by decide +kernel, by decide +kernel⟩
def H__law_signs (P : Program) (w : World) (K : PySem.W.Frag) (mg : Str → Option Value) (base : Heap) : Prop := Has P w K mg base (CX0) 4 "_law_signs" ["_law_state_here"] (sp__law_signs K)
theorem ok__law_signs {f : Addr} {fd : FuncData} (F : FunD K "_law_signs" "_law_signs" (defArgs (top 66)) (defBody (top 66)) (defScope (top 66)) [] [] f fd) (T : Tp K mg)  (h__law_of : H__law_of P w K mg base) (h__law_draw : H__law_draw P w K mg base) : FnOk P w K mg base (CX0) 4 f fd ["_law_state_here"] (sp__law_signs K) := by
  refine F.ok sc__law_signs (fun vs H Q E h => by (obtain ⟨_, rfl, _⟩ := h; rfl)) (fun cdv A outer s H vs Q E hr h => ?_)
  obtain ⟨sd, rfl, hs, k⟩ := h
  refine ⟨_, PSs.nox (pss_cons (ps_asg (pe_tup (pa_cons (pcall h__law_draw hr rfl (pa_cons (pv 0) (pa_cons pe_int pa_nil))) (pa_cons (pcall h__law_of hr rfl (pa_cons (pv 0) (pa_cons (pe_lst (pa_cons pe_int (pa_cons pe_int (pa_cons pe_int (pa_cons pe_int (pa_cons pe_int (pa_cons pe_int pa_nil))))))) pa_nil))) pa_nil))) (pg_tup rfl (pgs_cons (pg_name (i := 1) sc__law_signs.nd rfl (Or.inr rfl)) (pgs_cons (pg_name (i := 2) sc__law_signs.nd rfl (Or.inr rfl)) pgs_nil)))) (pss_one (ps_ret (pe_lc (own := [("_law_k", 3)]) (g := gName 3) (tt := tYes) rfl sc__law_signs.nd (pi_range1 rfl T.range (pa_cons (pe_op op_add pe_int (pcall h__law_draw hr rfl (pa_cons (pv 0) (pa_cons pe_int pa_nil)))) pa_nil)) (blkOk_by (own := [("_law_k", 3)]) (N := ["_law_state_here", "_law_first", "_law_step", "_law_k"]) (sc := defScope (top 66)) (by decide +kernel)) (fun _ _ _ _ _ => pg_name (i := 3) sc__law_signs.nd rfl (Or.inl rfl)) (fun _ _ _ _ _ => pts_nil) (fun _ _ _ _ _ => (pe_ix ix_str pe_str (pe_op op_modN (pe_op op_add (pv 1) (pe_op op_mul (pv 2) (pv 3))) pe_int) (fun _ _ => rfl))))))), ?_⟩
  refine ⟨_, rfl, sd, _, rfl, hs, by decide, by decide, fun r H1 r0 r1 hs1 kp1 => ?_⟩
  refine ⟨_, rfl, by show 6 ≤ sizeLine; decide, fun b hb => ?_⟩
  have hs1' : StAt (upd H1 b (.lst [.int 1, .int 3, .int 5, .int 7, .int 9, .int 11])) sd := hs1.ex (Evl.Ex.new hb)
  refine ⟨sd, b, _, rfl, hs1', SqL.of upd_same, by simp, by show 6 ≤ 1000; decide, fun x H2 hx hs2 kp2 => ?_⟩
  have hxi : ∃ st : Int, x = .int st := by
    simp at hx
    rcases hx with h | h | h | h | h | h <;> exact ⟨_, h⟩
  obtain ⟨st, rfl⟩ := hxi
  have kpb : Kp sd H H2 := (kp1.ex (Evl.Ex.new hb)).trans kp2
  refine ⟨by show 2 ≤ sizeLine; decide, fun t ht => ⟨t, _, rfl, SqT.of upd_same, rfl, _, _, rfl, _, _, rfl, rfl, ?_⟩⟩
  have hs3 := hs2.ex (Evl.Ex.new (o := .tup [.int r, .int st]) ht)
  have kp3 := kpb.ex (Evl.Ex.new (o := .tup [.int r, .int st]) ht)
  generalize upd H2 t (.tup [.int r, .int st]) = H3 at hs3 kp3 ⊢
  refine ⟨_, rfl, sd, _, rfl, hs3, by decide, by decide, fun n H4 n0 n1 hs4 kp4 => ⟨_, _, rfl, rfl, _, rfl, by omega, by omega, fun D hD => ?_⟩⟩
  have kp04 := kp3.trans kp4
  obtain ⟨kvs, hdk⟩ := hs4.dk
  refine lc_it walk_range (fun i H' => Evl.Ex H4 H' ∧ ∃ ls : Wd, ls.length = i ∧ Good ls ∧ H' D = some (.lst (ls.map fun c => V.str (tx [c])))) ?_ (fun _ _ _ _ => trivial) ?_ ?_
  · exact ⟨(Evl.Ex.refl H4).mut hD, [], rfl, good_nil, upd_same⟩
  · rintro i v H5 H6 hi ⟨e5, ls, hl, hg, hd⟩ ⟨rfl, hv⟩
    subst hv
    refine ⟨rfl, ?_⟩
    obtain ⟨m0, m1⟩ := fm (r + st * (0 + (i : Nat))) 26 (by decide)
    obtain ⟨c, c1, c2, gA⟩ := pickL m0 m1
    refine ⟨_, rfl, _, rfl, _, rfl, _, _, rfl, rfl, .inr ⟨by omega, by omega⟩, _, _, rfl, rfl, _, _, rfl, rfl, (fun z => absurd z (by decide)), _, _, _, rfl, rfl, by decide +kernel, gA, _, hd, Evl.sz_lt (by rw [List.length_map]; omega), e5.mut hD, ls ++ [c], by simp [hl], Good.app hg (one_good c1 c2), ?_⟩
    rw [upd_same, List.map_append]; rfl
  · rintro H5 ⟨e5, ls, hl, hg, hd⟩
    have hDH : H D = none := by
      cases e : H D with
      | none => rfl
      | some o =>
        by_cases z : D = sd
        · obtain ⟨kvs, hk⟩ := hs4.dk
          rw [z, hk] at hD
          cases hD
        · have := kp04 _ _ e z
          rw [hD] at this
          cases this
    exact k D ls H5 hDH hd (fun z => by rw [z] at hl; simp at hl; omega) (by omega) hg (hs4.ex e5) (kp04.ex e5)
theorem sc__law_row : FnScope ["_law_state_here", "_law_signs_here", "_law_least", "_law_most", "_law_size_here", "_law_way", "_law_wide", "_law_k"] ["_law_state_here", "_law_signs_here", "_law_least", "_law_most"] (defScope (top 67)) := ⟨rfl, rfl, rfl, by decide +kernel, rfl, by decide +kernel, by decide +kernel⟩
def H__law_row (P : Program) (w : World) (K : PySem.W.Frag) (mg : Str → Option Value) (base : Heap) : Prop := Has P w K mg base (CX0) 5 "_law_row" ["_law_state_here", "_law_signs_here", "_law_least", "_law_most"] (sp__law_row K)
theorem ok__law_row {f : Addr} {fd : FuncData} (F : FunD K "_law_row" "_law_row" (defArgs (top 67)) (defBody (top 67)) (defScope (top 67)) [] [] f fd) (T : Tp K mg)  (h__law_draw : H__law_draw P w K mg base) (h__law_of : H__law_of P w K mg base) : FnOk P w K mg base (CX0) 5 f fd ["_law_state_here", "_law_signs_here", "_law_least", "_law_most"] (sp__law_row K) := by
  refine F.ok sc__law_row (fun vs H Q E h => by (obtain ⟨_, _, _, _, _, rfl, _⟩ := h; rfl)) (fun cdv A outer s H vs Q E hr h => ?_)
  obtain ⟨sd, a, ls, lo, hi, rfl, hs, ha, hne, hl4, hg, hlo, hhi, k⟩ := h
  refine ⟨_, PSs.nox (pss_cons (ps_par (i := 4) (j := 5) (by rfl) sc__law_row.nd rfl rfl (by decide) rfl rfl (pa_cons (pe_op op_add (pv 2) (pcall h__law_draw hr rfl (pa_cons (pv 0) (pa_cons (pe_op op_add (pe_op op_sub (pv 3) (pv 2)) pe_int) pa_nil)))) (pa_cons (pcall h__law_draw hr rfl (pa_cons (pv 0) (pa_cons pe_int pa_nil))) pa_nil)) (by rfl)) (pss_cons (ps_if (pt_cmpR op_lt (pv 5) pe_int (nomark _)) (pss_cons (ps_set (i := 6) sc__law_row.nd rfl (Or.inr rfl) (pe_op op_add pe_int (pe_op op_mul (pv 5) (pcall h__law_draw hr rfl (pa_cons (pv 0) (pa_cons pe_int pa_nil)))))) (pss_one (ps_ret (pe_join pe_str (pe_lc (own := [("_law_k", 7)]) (g := gName 7) (tt := tYes) rfl sc__law_row.nd (pi_range1 rfl T.range (pa_cons (pv 4) pa_nil)) (blkOk_by (own := [("_law_k", 7)]) (N := ["_law_state_here", "_law_signs_here", "_law_least", "_law_most", "_law_size_here", "_law_way", "_law_wide", "_law_k"]) (sc := defScope (top 67)) (by decide +kernel)) (fun _ _ _ _ _ => pg_name (i := 7) sc__law_row.nd rfl (Or.inl rfl)) (fun _ _ _ _ _ => pts_nil) (fun _ _ _ _ _ => (pe_ix (ix_listK (K := K) rfl) (pv 1) (pe_op op_modN (pe_op op_fdivN (pv 7) (pv 6)) (pe_callB (lenK (K := K) rfl) (by rfl) T.len PySem.boot_len (pa_cons (pv 1) pa_nil))) (fun _ _ => rfl)))))))) pss_nil) (pss_one (ps_ret (pe_join pe_str (pe_lc (own := [("_law_k", 7)]) (g := gName 7) (tt := tYes) rfl sc__law_row.nd (pi_range1 rfl T.range (pa_cons (pv 4) pa_nil)) (blkOk_by (own := [("_law_k", 7)]) (N := ["_law_state_here", "_law_signs_here", "_law_least", "_law_most", "_law_size_here", "_law_way", "_law_wide", "_law_k"]) (sc := defScope (top 67)) (by decide +kernel)) (fun _ _ _ _ _ => pg_name (i := 7) sc__law_row.nd rfl (Or.inl rfl)) (fun _ _ _ _ _ => pts_nil) (fun _ _ _ _ _ => (pcall h__law_of hr rfl (pa_cons (pv 0) (pa_cons (pv 1) pa_nil)))))))))), ?_⟩
  have hpos : 1 ≤ ls.length := by cases ls with | nil => exact absurd rfl hne | cons x r => simp
  have sda : sd ≠ a := hs.ne ha (fun kvs z => by cases z)
  refine ⟨_, rfl, _, rfl, _, rfl, _, rfl, _, _, rfl, rfl, _, _, rfl, rfl, sd, _, rfl, hs, by omega, by omega, fun r H1 r0 r1 hs1 kp1 => ?_⟩
  refine ⟨_, _, rfl, rfl, _, rfl, sd, _, rfl, hs1, by decide, by decide, fun y H2 y0 y1 hs2 kp2 => ⟨_, _, rfl, ?_⟩⟩
  have kp02 := kp1.trans kp2
  have hn : ∃ n : Nat, (lo : Int) + r = (n : Nat) ∧ lo ≤ n ∧ n ≤ hi := ⟨(lo + r).toNat, by omega, by omega, by omega⟩
  obtain ⟨n, en, n1, n2⟩ := hn
  simp only [en]
  have fin : ∀ (H3 : Hp) (q : Wd) (D : Addr), StAt H3 sd → Kp sd H H3 → Good q → q.length = n → H3 D = some (.lst (q.map fun c => V.str (tx [c]))) →
      ∃ (b : Str) (p : Addr) (ys : List Str), V.str "" = V.str b ∧ [V.ref D] = [V.ref p] ∧ (SqL K H3 p (ys.map V.str) ∨ SqT K H3 p (ys.map V.str)) ∧ (ys.map (·.length)).sum + ys.length * b.length ≤ 16777216 ∧ Q (.str (Txt.join b ys)) H3 := by
    intro H3 q D h3 k3 hq hql hd
    refine ⟨"", D, (q.map fun c => [c]).map tx, rfl, rfl, .inl (SqL.of (by rw [hd, tx_flat])), ?_, ?_⟩
    · have h0 : ("" : Str).length = 0 := empty_len
      rw [tx_sum, h0]; omega
    · rw [join_tx, flat1]
      exact k q H3 ⟨hq, by omega⟩ (by omega) (by omega) h3 k3
  have ha2 : H2 a = some (.lst (ls.map fun c => V.str (tx [c]))) := kp02 _ _ ha (Ne.symm sda)
  refine ⟨_, rfl, _, _, rfl, rfl, _, rfl, ite2 (fun hy => ?_) (fun hy => ?_)⟩
  · have hy : y < 2 := of_decide_eq_true hy
    refine ⟨_, rfl, _, rfl, sd, _, rfl, hs2, by decide, by decide, fun x H3 x0 x1 hs3 kp3 => ⟨_, _, rfl, rfl, .inl ⟨by omega, by omega⟩, _, _, rfl, rfl, ?_⟩⟩
    have hwide : ∃ wd : Int, 1 + y * x = wd ∧ 1 ≤ wd ∧ wd ≤ 10 := by
      have : 0 ≤ y * x := Int.mul_nonneg y0 x0
      have : y * x ≤ 1 * 5 := Int.mul_le_mul (by omega) (by omega) x0 (by decide)
      exact ⟨_, rfl, by omega, by omega⟩
    obtain ⟨wd, ew, w0, w1⟩ := hwide
    simp only [ew]
    have kp03 := kp02.trans kp3
    have ha3 : H3 a = some (.lst (ls.map fun c => V.str (tx [c]))) := kp03 _ _ ha (Ne.symm sda)
    refine ⟨⟨_, rfl⟩, _, rfl, _, rfl, by omega, by omega, fun D hD => ?_⟩
    refine lc_it walk_range (fun i H' => Evl.Ex H3 H' ∧ ∃ q : Wd, q.length = i ∧ Good q ∧ H' D = some (.lst (q.map fun c => V.str (tx [c])))) ?_ (fun _ _ _ _ => trivial) ?_ ?_
    · exact ⟨(Evl.Ex.refl H3).mut hD, [], rfl, good_nil, upd_same⟩
    · rintro i v H5 H6 hi' ⟨e5, q, hl, hgq, hd⟩ ⟨rfl, hv⟩
      subst hv
      refine ⟨rfl, ?_⟩
      have hlp : (0 : Int) < ((ls.map fun c => V.str (tx [c])).length : Nat) := by rw [List.length_map]; omega
      obtain ⟨m0, m1⟩ := fm ((0 + (i : Nat) : Int).fdiv wd) ((ls.map fun c => V.str (tx [c])).length : Nat) hlp
      rw [List.length_map] at m0 m1
      obtain ⟨c, hc, gA⟩ := pick m0 m1
      rw [← List.length_map (f := fun c => V.str (tx [c])) (as := ls)] at gA
      refine ⟨_, rfl, _, rfl, _, rfl, _, _, rfl, rfl, ⟨by omega, by omega⟩, _, rfl, _, _, rfl, .inl (SqL.of (e5 _ _ ha3)), _, _, rfl, rfl, by omega, _, _, _, _, rfl, rfl, SqL.of (e5 _ _ ha3), gA, _, hd, Evl.sz_lt (by rw [List.length_map]; omega), e5.mut hD, q ++ [c], by simp [hl], Good.app hgq (one_good (hg c hc).1 (hg c hc).2), ?_⟩
      rw [upd_same, List.map_append]; rfl
    · rintro H5 ⟨e5, q, hl, hgq, hd⟩
      exact fin H5 q D (hs3.ex e5) (kp03.ex e5) hgq (by omega) hd
  · refine ⟨⟨_, rfl⟩, _, rfl, _, rfl, by omega, by omega, fun D hD => ?_⟩
    have sD : sd ≠ D := fun z => by
      obtain ⟨kvs, hk⟩ := hs2.dk
      rw [z, hD] at hk
      cases hk
    refine lc_it walk_range (fun i H' => Kp sd H2 H' ∧ StAt H' sd ∧ ∃ q : Wd, q.length = i ∧ Good q ∧ H' D = some (.lst (q.map fun c => V.str (tx [c])))) ?_ (fun _ _ _ _ => trivial) ?_ ?_
    · exact ⟨(Kp.refl sd H2).mut hD, hs2.ex ((Evl.Ex.refl H2).mut hD), [], rfl, good_nil, upd_same⟩
    · rintro i v H5 H6 hi' ⟨e5, hs5, q, hl, hgq, hd⟩ ⟨rfl, hv⟩
      subst hv
      refine ⟨rfl, ?_⟩
      have ha5 := e5 _ _ ha2 (Ne.symm sda)
      refine ⟨_, rfl, _, rfl, sd, a, _, rfl, hs5, SqL.of ha5, by simpa using hne, by rw [List.length_map]; omega, fun x H7 hx hs7 kp7 => ?_⟩
      obtain ⟨c, hc, rfl⟩ := List.mem_map.mp hx
      have hd7 := kp7 _ _ hd (Ne.symm sD)
      refine ⟨_, hd7, Evl.sz_lt (by rw [List.length_map]; omega), (e5.trans kp7).mut hD, ?_, q ++ [c], by simp [hl], ?_, ?_⟩
      · obtain ⟨l, pp, t, aa, cs, g1, g2, g3⟩ := hs7
        have aD : aa ≠ D := fun z => by
          rw [z, hd7] at g2
          injection g2 with g2
          injection g2 with g2
          cases cs with
          | nil => exact absurd g3.1 (by simp)
          | cons c0 cs => cases q with
            | nil => cases g2
            | cons d q => injection g2 with g2 _; cases g2
        exact ⟨l, pp, t, aa, cs, by rw [upd_ne sD]; exact g1, by rw [upd_ne aD]; exact g2, g3⟩
      · exact Good.app hgq (one_good (hg c hc).1 (hg c hc).2)
      · rw [upd_same, List.map_append]; rfl
    · rintro H5 ⟨e5, hs5, q, hl, hgq, hd⟩
      exact fin H5 q D hs5 (kp02.trans e5) hgq (by omega) hd
end
end Mw
end
section
set_option Elab.async false
set_option linter.all false
set_option maxRecDepth 100000
set_option maxHeartbeats 4000000
/-! the law's own mirrors and sizes -/
namespace Mw
open PySem PySem.Spec PyProof.Rows L2 Mir Mr
section
variable {P : Program} {w : World} {K : Frag} {mg : Str → Option Value} {base : Heap}
theorem sc__law_closed : FnScope ["_law_row_here", "_law_text", "_law_sign", "_law_body", "_law_start"] ["_law_row_here"] (defScope (top 69)) := ⟨rfl, rfl, rfl, by decide +kernel, rfl, by decide +kernel, by decide +kernel⟩
def H__law_closed (P : Program) (w : World) (K : PySem.W.Frag) (mg : Str → Option Value) (base : Heap) : Prop := Has P w K mg base (CX0) 1 "_law_closed" ["_law_row_here"] (sp__law_closed K)
theorem ok__law_closed {f : Addr} {fd : FuncData} (F : FunD K "_law_closed" "_law_closed" (defArgs (top 69)) (defBody (top 69)) (defScope (top 69)) [] [] f fd) (T : Tp K mg)   : FnOk P w K mg base (CX0) 1 f fd ["_law_row_here"] (sp__law_closed K) := by
  refine F.ok sc__law_closed (fun vs H Q E h => by (obtain ⟨_, rfl, _⟩ := h; rfl)) (fun cdv A outer s H vs Q E hr h => ?_)
  obtain ⟨p, rfl, hp, hl, k⟩ := h
  refine ⟨_, PSs.nox (pss_cons (ps_set (i := 1) sc__law_closed.nd rfl (Or.inl rfl) pe_str) (pss_cons (ps_for PassesOwn.never rfl (pi_str (pv 0)) (pg_name (i := 2) sc__law_closed.nd rfl (Or.inl rfl)) (pss_cons (ps_par (i := 3) (j := 4) (by rfl) sc__law_closed.nd rfl rfl (by decide) rfl rfl (pa_cons (pe_op op_add_str (pv 1) (pv 2)) (pa_cons pe_int pa_nil)) (by rfl)) (pss_cons (ps_while PassesOwn.never (pt_cmpR op_ne (pe_slice sl_str (pv 3) (po_some (pv 4)) po_none) (pe_revS (pe_slice sl_str (pv 3) (po_some (pv 4)) po_none)) (nomark _)) (pss_one (ps_set (i := 4) sc__law_closed.nd rfl (Or.inl rfl) (pe_op op_add (pv 4) pe_int)))) (pss_one (ps_set (i := 1) sc__law_closed.nd rfl (Or.inl rfl) (pe_op op_add_str (pv 3) (pe_revS (pe_slice sl_str (pv 3) po_none (po_some (pv 4)))))))))) (pss_one (ps_ret (pv 1))))), ?_⟩
  have hsz : ∀ i, (M (p.take i)).length ≤ 63 := fun i => by
    have h1 := L_take_le p i
    have h2 := L_lt hl
    show L (p.take i) ≤ 63
    have : (2 : Nat) ^ 6 = 64 := rfl
    omega
  refine ⟨_, rfl, _, rfl, for_it walk_str (fun i σ H' => Evl.Ex H H' ∧ ∃ x1 x2 x3, σ = [some (.str (tx p)), some (.str (tx (M (p.take i)))), x1, x2, x3]) ?_ (fun _ _ _ _ _ => trivial) ?_ ?_⟩
  · exact ⟨Evl.Ex.refl H, none, none, none, by rw [List.take_zero]; show _ = _; rw [show tx (M []) = ("" : Str) from tx_nil]; rfl⟩
  · rintro i v σ H1 H2 hi ⟨e1, x1, x2, x3, rfl⟩ ⟨rfl, c, hc, rfl⟩
    obtain ⟨hi', hcv⟩ := str_turn (p := p) (i := i) (y := .str ⟨#[c]⟩) (by rw [hc]; rfl)
    rw [hcv]
    have hg := gr_pos (p.take i) p[i]
    have hm := hsz i
    have hbl : ((M (p.take i)) ++ [p[i]]).length ≤ 64 := by simp; omega
    have hbl2 : (tx ((M (p.take i)) ++ [p[i]])).length ≤ 64 := by rw [tx_len]; exact hbl
    refine ⟨_, rfl, _, rfl, _, _, rfl, rfl, Evl.sz_of (by rw [tx_len, tx_len]; simp; omega), _, _, rfl, ?_⟩
    rw [tx_app]
    refine ⟨fun m σ H' => H' = H2 ∧ ∃ s : Nat, s ≤ gr (p.take i) p[i] - 1 ∧ m = gr (p.take i) p[i] - 1 - s ∧ σ = [some (.str (tx p)), some (.str (tx (M (p.take i)))), some (.str (tx [p[i]])), some (.str (tx (M (p.take i) ++ [p[i]]))), some (.int (s : Nat))], ⟨_, rfl, 0, Nat.zero_le _, rfl, rfl⟩, ?_⟩
    · rintro m σ H3 ⟨rfl, s, hs, hms, rfl⟩
      refine ⟨_, rfl, _, rfl, _, rfl, _, rfl, Evl.sz_of (by omega), _, rfl, _, rfl, _, rfl, _, rfl, Evl.sz_of (by omega), ?_⟩
      rw [cutS_lo']
      refine ⟨_, rfl, Evl.sz_of (by rw [tx_len, List.length_drop]; omega), rfl, _, rfl, ?_⟩
      rw [tx_rev]
      by_cases hlast : s = gr (p.take i) p[i] - 1
      · have hy := close_yes (p.take i) p[i]
        rw [← hlast] at hy
        rw [hy]
        refine ifF (by simp) ?_
        refine ⟨_, rfl, _, rfl, _, rfl, _, rfl, _, rfl, Evl.sz_of (by omega), ?_⟩
        rw [cutS_hi]
        refine ⟨_, rfl, Evl.sz_of (by rw [tx_len, List.length_take]; omega), _, _, rfl, rfl, Evl.sz_of (by rw [revS_len, tx_len, tx_len, List.length_take]; omega), ?_⟩
        rw [tx_rev, tx_app, hlast, ← close_rest (p.take i) p[i], ← take_succ' hi']
        exact ⟨e1, _, _, _, rfl⟩
      · have hn := close_no (p.take i) p[i] s (by omega)
        refine ifT (by rw [decide_eq_false (fun z => hn (tx_inj (by injection z with z; exact z.symm)))]; rfl) ⟨fun σ' H' => H' = H3 ∧ σ' = [some (.str (tx p)), some (.str (tx (M (p.take i)))), some (.str (tx [p[i]])), some (.str (tx (M (p.take i) ++ [p[i]]))), some (.int ((s + 1 : Nat) : Int))], ?_, ?_⟩
        · rintro σ' H' ⟨rfl, rfl⟩
          exact ⟨m - 1, by omega, rfl, s + 1, by omega, by omega, rfl⟩
        · exact ⟨_, rfl, _, _, rfl, rfl, rfl, rfl⟩
  · rintro σ H1 ⟨e1, x1, x2, x3, rfl⟩
    rw [tx_size, List.take_length]
    exact ⟨_, rfl, k H1 e1⟩
theorem sc__law_sizes : FnScope ["_law_row_here", "_law_found", "_law_last", "_law_k", "_law_sign"] ["_law_row_here"] (defScope (top 70)) := ⟨rfl, rfl, rfl, by decide +kernel, rfl, by decide +kernel, by decide +kernel⟩
def H__law_sizes (P : Program) (w : World) (K : PySem.W.Frag) (mg : Str → Option Value) (base : Heap) : Prop := Has P w K mg base (CX0) 1 "_law_sizes" ["_law_row_here"] (sp__law_sizes K)
theorem ok__law_sizes {f : Addr} {fd : FuncData} (F : FunD K "_law_sizes" "_law_sizes" (defArgs (top 70)) (defBody (top 70)) (defScope (top 70)) [] [] f fd) (T : Tp K mg)   : FnOk P w K mg base (CX0) 1 f fd ["_law_row_here"] (sp__law_sizes K) := by
  refine F.ok sc__law_sizes (fun vs H Q E h => by (obtain ⟨_, rfl, _⟩ := h; rfl)) (fun cdv A outer s H vs Q E hr h => ?_)
  obtain ⟨p, rfl, hp, k⟩ := h
  refine ⟨_, PSs.nox (pss_cons (ps_par (i := 1) (j := 2) (by rfl) sc__law_sizes.nd rfl rfl (by decide) rfl rfl (pa_cons (pe_lst (pa_cons pe_int pa_nil)) (pa_cons pe_dnewK pa_nil)) (by rfl)) (pss_cons (ps_for PassesOwn.never rfl (pi_enumS (by rfl) T.enumerate (pa_cons (pv 0) pa_nil)) (pg_tup rfl (pgs_cons (pg_name (i := 3) sc__law_sizes.nd rfl (Or.inl rfl)) (pgs_cons (pg_name (i := 4) sc__law_sizes.nd rfl (Or.inl rfl)) pgs_nil))) (pss_cons (ps_expr (pe_bm PySem.F.plainAttrs_list PySem.F.slot_list_append PySem.F.type_list_append mt_append (pv 1) (pa_cons (pe_op op_sub (pe_op op_mul pe_int (pe_ix ix_list (pv 1) (pv 3) (fun _ _ => rfl))) (pe_ifExp (pt_cmp (pc_din (hu_of hr) (pv 4) (pv 2))) (pe_ix ix_list (pv 1) (pe_dget (hu_of hr) (pv 2) (pv 4) (fun _ _ => rfl)) (fun _ _ => rfl)) (pe_un un_neg pe_int))) pa_nil))) (pss_one (ps_dput (hu_of hr) (pv 2) (pv 4) (pv 3) rfl)))) (pss_one (ps_ret (pv 1))))), ?_⟩
  refine ⟨by show 1 ≤ sizeLine; decide, fun l hl => ?_⟩
  intro d hd
  have ld : l ≠ d := fun z => by rw [← z, upd_same] at hd; cases hd
  have hd' : H d = none := by rwa [upd_ne (Ne.symm ld)] at hd
  refine ⟨_, _, rfl, ?_⟩
  have hlen := hp.len
  refine ⟨_, rfl, _, rfl, for_it walk_enumS (fun i σ H' => Evl.Ex H H' ∧ (∃ x1 x2, σ = [some (.str (tx p)), some (.ref l), some (.ref d), x1, x2]) ∧ H' l = some (.lst (iV ((List.range (i + 1)).map fun j => L (p.take j)))) ∧
    ∃ kvs, H' d = some (.dK kvs) ∧ kvs.length ≤ i ∧ ∀ c : Nat, valV kvs (.inr (tx [c])) = (lastIx (p.take i) c).map fun j => V.int (j : Nat)) ?_ (fun _ _ _ _ _ => trivial) ?_ ?_⟩
  · exact ⟨((Evl.Ex.refl H).mut hl).mut hd', ⟨none, none, rfl⟩, by rw [upd_ne ld]; exact upd_same, [], upd_same, Nat.le_refl _, fun c => rfl⟩
  · rintro i v σ H1 H2 hi ⟨e1, ⟨x1, x2, rfl⟩, h1, kvs, h2, h3, h4⟩ ⟨T', x, y, rfl, hT, rfl, hx, hy⟩
    cases hx
    obtain ⟨hi', rfl⟩ := str_turn hy
    refine pair_go ?_
    have dT : d ≠ T' := ne_of_none h2 hT
    have lT : l ≠ T' := ne_of_none h1 hT
    have e2 := e1.trans (Evl.Ex.new (o := .tup [.int (i : Nat), .str (tx [p[i]])]) hT)
    have g1 : upd H1 T' (.tup [.int (i : Nat), .str (tx [p[i]])]) l = _ := (upd_ne lT).trans h1
    have g2 : upd H1 T' (.tup [.int (i : Nat), .str (tx [p[i]])]) d = _ := (upd_ne dT).trans h2
    generalize upd H1 T' (.tup [.int (i : Nat), .str (tx [p[i]])]) = H3 at *
    have geti : ∀ j, j ≤ i → atI (iV ((List.range (i + 1)).map fun j => L (p.take j))) ((j : Nat) : Int) = some (.int (L (p.take j) : Nat)) := fun j hj => atI_nat (by
      have hj' : j < i + 1 := by omega
      rw [iV_get]; simp [hj'])
    have hsz : (iV ((List.range (i + 1)).map fun j => L (p.take j))).length < sizeLine := Evl.sz_lt (by rw [iV_len]; simp; omega)
    have eS := L_step (p.take i) p[i]
    rw [← take_succ' hi'] at eS
    have hv := h4 p[i]
    have fin : ∀ z : Int, z = (L (p.take (i + 1)) : Nat) → tAsg (tVar 3) (fun v σ H Q => ∃ a H4, (.ref d : V) = .ref a ∧ DPut H a (.str (tx [p[i]])) v H4 ∧ Q σ H4) = tAsg (tVar 3) (fun v σ H Q => ∃ a H4, (.ref d : V) = .ref a ∧ DPut H a (.str (tx [p[i]])) v H4 ∧ Q σ H4) := fun _ _ => rfl
    have last : ∀ (z : Int), z = (L (p.take (i + 1)) : Nat) → ∀ H5, H5 = upd H3 l (.lst (iV ((List.range (i + 1)).map fun j => L (p.take j)) ++ [.int z])) →
        ∃ a H4, (V.ref d) = .ref a ∧ DPut H5 a (.str (tx [p[i]])) (.int (i : Nat)) H4 ∧ (Evl.Ex H H4 ∧ (∃ x1 x2, ([some (.str (tx p)), some (.ref l), some (.ref d), some (.int (i : Nat)), some (.str (tx [p[i]]))] : L2.St) = [some (.str (tx p)), some (.ref l), some (.ref d), x1, x2]) ∧ H4 l = some (.lst (iV ((List.range (i + 1 + 1)).map fun j => L (p.take j)))) ∧
          ∃ kvs, H4 d = some (.dK kvs) ∧ kvs.length ≤ i + 1 ∧ ∀ c : Nat, valV kvs (.inr (tx [c])) = (lastIx (p.take (i + 1)) c).map fun j => V.int (j : Nat)) := by
      rintro z rfl H5 rfl
      refine ⟨d, _, rfl, DPut.k (k := .inr (tx [p[i]])) (kvs := kvs) (by rw [upd_ne (Ne.symm ld)]; exact g2) (Evl.sz_lt (by omega)), (e2.mut hl).mut hd', ⟨_, _, rfl⟩, ?_, _, upd_same, ?_, fun c => ?_⟩
      · rw [upd_ne ld, upd_same, List.range_succ (n := i + 1), List.map_append]; simp [iV]
      · have := putK_len kvs (.inr (tx [p[i]])) (.int (i : Nat))
        omega
      · rw [valV_put, take_succ' hi', lastIx_snoc, h4]
        by_cases hc : p[i] = c
        · rw [if_pos (inr_tx.mpr hc.symm), if_pos hc]
          simp [List.length_take, Nat.min_eq_left (Nat.le_of_lt hi')]
        · rw [if_neg (fun z => hc (inr_tx.mp z).symm), if_neg hc]
    refine ⟨_, rfl, .inl ⟨rfl, _, SqL.of g1⟩, _, rfl, _, rfl, _, _, _, _, rfl, rfl, SqL.of g1, geti i (Nat.le_refl _), _, _, rfl, rfl, .inl (by decide), ?_⟩
    refine ⟨_, rfl, _, rfl, d, _, rfl, DGet.k (k := .inr (tx [p[i]])) g2, _, rfl, ?_⟩
    rw [hv]
    cases e : lastIx (p.take i) p[i] with
    | none =>
      rw [e] at eS
      replace eS : L (p.take (i + 1)) = 2 * L (p.take i) + 1 := eS
      refine iteF ⟨_, rfl, _, _, rfl, rfl, l, _, _, rfl, rfl, g1, hsz, _, rfl, _, rfl, _, rfl, last _ ?_ _ rfl⟩
      rw [eS]; omega
    | some j =>
      rw [e] at eS hv
      replace eS : L (p.take (i + 1)) = 2 * L (p.take i) - L ((p.take i).take j) := eS
      obtain ⟨j1, _, _⟩ := lastIx_some _ _ _ e
      rw [List.length_take] at j1
      have hle : L ((p.take i).take j) ≤ L (p.take i) := L_step_le _ _ _ e
      have ej : (p.take i).take j = p.take j := by rw [List.take_take, Nat.min_eq_left (by omega)]
      rw [ej] at eS hle
      have gd : DGet H3 d (.str (tx [p[i]])) (some (.int (j : Nat))) := by
        have := DGet.k (k := .inr (tx [p[i]])) g2
        rw [hv] at this
        exact this
      refine iteT ⟨_, rfl, _, rfl, _, rfl, d, _, rfl, gd, _, _, _, _, rfl, rfl, SqL.of g1, geti j (by omega), _, _, rfl, rfl, l, _, _, rfl, rfl, g1, hsz, _, rfl, _, rfl, _, rfl, last _ ?_ _ rfl⟩
      rw [eS]; omega
  · rintro σ H1 ⟨e1, ⟨x1, x2, rfl⟩, h1, _⟩
    rw [tx_size] at h1
    exact ⟨_, rfl, k l H1 hl e1 h1⟩
theorem sc__law_size : FnScope ["_law_row_here"] ["_law_row_here"] (defScope (top 71)) := ⟨rfl, rfl, rfl, by decide +kernel, rfl, by decide +kernel, by decide +kernel⟩
def H__law_size (P : Program) (w : World) (K : PySem.W.Frag) (mg : Str → Option Value) (base : Heap) : Prop := Has P w K mg base (CX0) 2 "_law_size" ["_law_row_here"] (sp__law_size K)
theorem ok__law_size {f : Addr} {fd : FuncData} (F : FunD K "_law_size" "_law_size" (defArgs (top 71)) (defBody (top 71)) (defScope (top 71)) [] [] f fd) (T : Tp K mg)  (h__law_sizes : H__law_sizes P w K mg base) : FnOk P w K mg base (CX0) 2 f fd ["_law_row_here"] (sp__law_size K) := by
  refine F.ok sc__law_size (fun vs H Q E h => by (obtain ⟨_, rfl, _⟩ := h; rfl)) (fun cdv A outer s H vs Q E hr h => ?_)
  obtain ⟨p, rfl, hp, k⟩ := h
  refine ⟨_, PSs.nox (pss_one (ps_ret (pe_ix ix_list (pcall h__law_sizes hr rfl (pa_cons (pv 0) pa_nil)) (pe_un un_neg pe_int) (fun _ _ => rfl)))), ?_⟩
  refine ⟨_, rfl, _, rfl, hp, fun a H2 ha e2 h2 => ?_⟩
  exact ⟨_, rfl, _, _, _, _, rfl, rfl, SqL.of h2, lensV_last p, k H2 e2⟩
end
end Mw
end
section
set_option Elab.async false
set_option linter.all false
set_option maxRecDepth 100000
set_option maxHeartbeats 4000000
/-! the lambdas: _law_gone, tables of code objects, equal data -/
namespace Mw
open PySem PySem.Spec PyProof.Rows L2 Mir Mr
/-! ### tables -/
abbrev tabR (K : Frag) : Addr := (He.cT K ("_law_read_right", none)).2
abbrev tabW (K : Frag) : Addr := (He.cT K ("_law_window_right", none)).2
abbrev tabK (K : Frag) : Addr := (He.cT K ("_law_walked_right", none)).2
def lamN (x : Str) : Str := (x ++ ".<locals>.") ++ "<lambda>"
def tabs (K : Frag) : List (Addr × Str) := [(tabR K, lamN "_law_read_right"), (tabW K, lamN "_law_window_right"), (tabK K, lamN "_law_walked_right")]
structure Dist (K : Frag) : Prop where
  rw : tabR K ≠ tabW K
  rk : tabR K ≠ tabK K
  wk : tabW K ≠ tabK K
theorem hu_r {K : Frag} (D : Dist K) : ∀ p ∈ tabs K, p.1 = tabR K → p.2 = lamN "_law_read_right" := fun p hp e => by
  simp [tabs] at hp
  rcases hp with rfl | rfl | rfl
  · rfl
  · exact absurd e (Ne.symm D.rw)
  · exact absurd e (Ne.symm D.rk)
theorem hu_w {K : Frag} (D : Dist K) : ∀ p ∈ tabs K, p.1 = tabW K → p.2 = lamN "_law_window_right" := fun p hp e => by
  simp [tabs] at hp
  rcases hp with rfl | rfl | rfl
  · exact absurd e D.rw
  · rfl
  · exact absurd e (Ne.symm D.wk)
theorem hu_k {K : Frag} (D : Dist K) : ∀ p ∈ tabs K, p.1 = tabK K → p.2 = lamN "_law_walked_right" := fun p hp e => by
  simp [tabs] at hp
  rcases hp with rfl | rfl | rfl
  · exact absurd e D.rk
  · exact absurd e D.wk
  · rfl
theorem in_r (K : Frag) : (tabR K, lamN "_law_read_right") ∈ tabs K := by simp [tabs]
theorem in_w (K : Frag) : (tabW K, lamN "_law_window_right") ∈ tabs K := by simp [tabs]
theorem in_k (K : Frag) : (tabK K, lamN "_law_walked_right") ∈ tabs K := by simp [tabs]
/-! ### what is kept: all but one object and the tables -/
def KpN (c : Addr) (H H' : Hp) : Prop := ∀ b o, H b = some o → b ≠ c → (∀ ps, o ≠ .tbl ps) → H' b = some o
theorem KpN.refl (c : Addr) (H : Hp) : KpN c H H := fun _ _ h _ _ => h
theorem KpN.kp {c : Addr} {H H' : Hp} (k : Kp c H H') : KpN c H H' := fun b o h n _ => k b o h n
theorem KpN.extN {c : Addr} {H H' : Hp} (e : LamX.ExtN H H') : KpN c H H' := fun b o h _ n => e b o h n
theorem KpN.ex {c : Addr} {H H1 H2 : Hp} (a : KpN c H H1) (e : Evl.Ex H1 H2) : KpN c H H2 := fun b o h n t => e b o (a b o h n t)
theorem KpN.trans {c : Addr} {H H1 H2 : Hp} (a : KpN c H H1) (e : KpN c H1 H2) : KpN c H H2 := fun b o h n t => e b o (a b o h n t) n t
theorem KpN.mut {c p : Addr} {H H1 : Hp} {o : HO} (a : KpN c H H1) (hp : H p = none) : KpN c H (upd H1 p o) := fun b u h n t => by
  rw [upd_ne (ne_of_none h hp)]
  exact a b u h n t
/-- two objects may change, one of them new -/
theorem KpN.new {c v : Addr} {H H1 H2 : Hp} (a : KpN c H H1) (hv : H v = none) (k : KpN v H1 H2) : KpN c H H2 := fun b o h n t => k b o (a b o h n t) (ne_of_none h hv) t
theorem StAt.kpn {H H' : Hp} {sd c : Addr} (h : StAt H sd) (k : KpN c H H') (n1 : sd ≠ c) (n2 : ∀ o, H c = some o → ∀ xs, o ≠ .lst xs) : StAt H' sd := by
  obtain ⟨l, p, t, a, cs, h1, h2, h3⟩ := h
  exact ⟨l, p, t, a, cs, k _ _ h1 n1 (fun ps z => by cases z), k _ _ h2 (fun z => n2 _ (by rw [← z]; exact h2) _ rfl) (fun ps z => by cases z), h3⟩
theorem StAt.extN {H H' : Hp} {sd : Addr} (h : StAt H sd) (e : LamX.ExtN H H') : StAt H' sd := by
  obtain ⟨l, p, t, a, cs, h1, h2, h3⟩ := h
  exact ⟨l, p, t, a, cs, e _ _ h1 (fun ps z => by cases z), e _ _ h2 (fun ps z => by cases z), h3⟩
theorem WalAt.kpn {K : Frag} {H H' : Hp} {v e c : Addr} {n : Nat} (h : WalAt K H v e n) (k : KpN c H H') (hn : v ≠ c) : WalAt K H' v e n := by
  obtain ⟨dx, h1⟩ := h
  exact ⟨dx, k _ _ h1 hn (fun ps z => by cases z)⟩
theorem PreAt.kpn {K : Frag} {H H' : Hp} {e l c : Addr} {p : Wd} {n : Nat} (h : PreAt K H e l p n) (k : KpN c H H') (h1 : e ≠ c) (h2 : l ≠ c) : PreAt K H' e l p n := by
  obtain ⟨⟨dx, r, g1⟩, ws, g2, g3⟩ := h
  exact ⟨⟨dx, r, k _ _ g1 h1 (fun ps z => by cases z)⟩, ws, k _ _ g2 h2 (fun ps z => by cases z), g3⟩
theorem WalAt.extN {K : Frag} {H H' : Hp} {v e : Addr} {n : Nat} (h : WalAt K H v e n) (k : LamX.ExtN H H') : WalAt K H' v e n := by
  obtain ⟨dx, h1⟩ := h
  exact ⟨dx, k _ _ h1 (fun ps z => by cases z)⟩
theorem PreAt.extN {K : Frag} {H H' : Hp} {e l : Addr} {p : Wd} {n : Nat} (h : PreAt K H e l p n) (k : LamX.ExtN H H') : PreAt K H' e l p n := by
  obtain ⟨⟨dx, r, g1⟩, ws, g2, g3⟩ := h
  exact ⟨⟨dx, r, k _ _ g1 (fun ps z => by cases z)⟩, ws, k _ _ g2 (fun ps z => by cases z), g3⟩
theorem GoOk.extN {K : Frag} {H H' : Hp} {v e l : Addr} {p z : Wd} {n m : Nat} (h : GoOk K H v e l p z n m) (x : LamX.ExtN H H') : GoOk K H' v e l p z n m := ⟨h.wal.extN x, h.pre.extN x, h.ok, h.good, h.len, h.occ⟩
/-- tables stand where a changed object is none -/
theorem tabs_kp {T : List (Addr × Str)} {H H' : Hp} {c : Addr} (h : LamX.Tabs T H) (k : Kp c H H') (hc : ∃ o, H c = some o ∧ (∀ ps, o ≠ .tbl ps) ∧ ∀ q, o ≠ LamX.CodeO c q) : LamX.Tabs T H' := fun p hp => by
  obtain ⟨ps, h1, h2, h3⟩ := h p hp
  obtain ⟨o, ho, hn, hq⟩ := hc
  refine ⟨ps, k _ _ h1 (fun z => by rw [z, ho] at h1; exact hn _ (Option.some.inj h1)), h2, fun pos cv hcv => ?_⟩
  obtain ⟨c', e1, e2⟩ := h3 pos cv hcv
  exact ⟨c', e1, k _ _ e2 (fun z => by rw [z, ho] at e2; exact hq _ (Option.some.inj e2))⟩
theorem tabs_dk {T : List (Addr × Str)} {H H' : Hp} {c : Addr} {kvs : List (Key × V)} (h : LamX.Tabs T H) (k : Kp c H H') (hc : H c = some (.dK kvs)) : LamX.Tabs T H' := tabs_kp h k ⟨_, hc, (fun ps z => by cases z), (fun q z => by unfold LamX.CodeO at z; cases z)⟩
theorem tabs_ins {T : List (Addr × Str)} {H H' : Hp} {c C dx : Addr} {fs : List (Str × V)} (h : LamX.Tabs T H) (k : Kp c H H') (hc : H c = some (.ins C dx fs)) : LamX.Tabs T H' := tabs_kp h k ⟨_, hc, (fun ps z => by cases z), (fun q z => by unfold LamX.CodeO at z; cases z)⟩
theorem tabs_lst {T : List (Addr × Str)} {H H' : Hp} {c : Addr} {xs : List V} (h : LamX.Tabs T H) (k : Kp c H H') (hc : H c = some (.lst xs)) : LamX.Tabs T H' := tabs_kp h k ⟨_, hc, (fun ps z => by cases z), (fun q z => by unfold LamX.CodeO at z; cases z)⟩
/-! ### the try -/
def TTgone (K : Frag) (CS : Addr) : (XK → Hp → VK → Prop) → Hp → VK → Prop := fun tl H Q => ∀ H1 Q', Evl.Ex H H1 → (∀ v H2, Q v H2 → Q' v H2) →
  tl (fun cls _ H' => ∃ b, PySem.W.exmOne K cls (.ref CS) = some b ∧ (b = true → Q .non H') ∧ (b = false → False)) H1 Q'
theorem sc_gone : FnScope ["_law_deed", "_law_wrong", "_law_told", "e"] ["_law_deed"] (defScope (top 72)) := ⟨rfl, rfl, rfl, by decide +kernel, rfl, by decide +kernel, by decide +kernel⟩
theorem gone_gives {X : Cx} {g : Addr} {cdg : Value} {q : Str} (hme : X.mg "Gone" = some (.ref (cGon X.K))) :
    LamX.GivesTo X ["_law_deed", "_law_wrong", "_law_told", "e"] "_law_gone" (defScope (top 72)) g cdg (defBody (top 72)) "_law_deed" q (TTgone X.K (cGon X.K)) := by
  intro f c' s H Q tl act hc h
  refine ⟨_, pss_cons (ps_asg (pe_tup (pa_cons pe_non (pa_cons pe_non pa_nil))) (pg_tup rfl (pgs_cons (pg_name (i := 1) sc_gone.nd rfl (Or.inl rfl)) (pgs_cons (pg_name (i := 2) sc_gone.nd rfl (Or.inl rfl)) pgs_nil))))
    (pss_cons (ps_try_as (X := (cxOf C8.CX0 X.prog X.w X.K X.mg X.base ["_law_deed", "_law_wrong", "_law_told", "e"] "_law_gone" (defScope (top 72)) g cdg X.A X.stack s H C8.E0).nox) (c := .ref (cGon X.K)) (i := 3)
      (tb := fun W D σ H => ∃ Ech : XK, (∀ cls d σ' H', Ech cls d H' → W cls d σ' H') ∧ σ[0]? = some (some (.ref f)) ∧ H c' = some (LamX.CodeO c' q) ∧ tl Ech H fun v H1 => D.nx (σ.set 2 (some v)) H1)
      (ts := fun _ _ _ D σ H => σ.length = 4 → tAsg (tVar 3) (gName 1) D σ H)
      rfl rfl sc_gone.nd rfl rfl ⟨rfl, by decide, .inl hme⟩ LamX.takes0 (fun W pn xe tk _ => ?_) (fun a oe cls d pn _ _ => ⟨fun pins s σ H D I h => (pss_one (ps_set (i := 1) sc_gone.nd rfl (Or.inl rfl) (pv 3))).run pins s σ H D I (h I.len)⟩))
    (pss_one (ps_ret (pe_ifExp (pt_cmpR op_isN (pv 1) pe_non (nomark _)) (pv 2) pe_non)))), ?_⟩
  · refine ⟨fun pins s' σ H' D I h' => ?_⟩
    obtain ⟨Ech, hW, h1, h2, h3⟩ := h'
    have hp := fun p1 p2 => act W pn xe Ech p1 p2 tk hW
    exact (pss_one (ps_set (i := 2) sc_gone.nd rfl (Or.inl rfl) (hp _ _))).run pins s' σ H' D I ⟨h1, h2, h3⟩
  · refine ⟨by show 2 ≤ sizeLine; decide, fun t ht => ⟨t, _, rfl, SqT.of upd_same, rfl, _, _, rfl, _, _, rfl, rfl, ?_⟩⟩
    have e1 : Evl.Ex H (upd H t (.tup [.non, .non])) := Evl.Ex.new ht
    refine ⟨fun cls _ H' => ∃ b, PySem.W.exmOne X.K cls (.ref (cGon X.K)) = some b ∧ (b = true → Q .non H') ∧ (b = false → False), fun cls d σ' H' ⟨b, e1, e2, e3⟩ => ⟨b, e1, fun hb a ha => ?_, fun hb => e3 hb⟩, rfl, e1 _ _ hc, ?_⟩
    · intro hlen
      rw [List.length_set] at hlen
      refine ⟨.ref a, by rw [List.getElem?_set_self (by omega)], ?_⟩
      have h1 : (((σ'.set 3 (some (.ref a))).set 1 (some (.ref a))).set 3 none)[1]? = some (some (V.ref a)) := by
        rw [List.getElem?_set_ne (by decide), List.getElem?_set_self (by rw [List.length_set]; omega)]
      exact ⟨_, h1, rfl, _, rfl, iteF (e2 hb)⟩
    · exact h _ _ e1 fun v H2 q => ⟨_, rfl, rfl, _, rfl, iteT ⟨_, rfl, q⟩⟩
end Mw
end
section
set_option Elab.async false
set_option linter.all false
set_option maxRecDepth 100000
set_option maxHeartbeats 4000000
/-! calls with a lambda; equal data -/
namespace Mw
open PySem PySem.Spec PyProof.Rows L2 Mir Mr
def GoneDef (K : Frag) (mg : Str → Option Value) : Prop := ∃ g fd, FunD K "_law_gone" "_law_gone" (defArgs (top 72)) (defBody (top 72)) (defScope (top 72)) [] [] g fd ∧ mg "_law_gone" = some (.ref g) ∧ Binds K fd ["_law_deed"] []
section
variable {X : Cx} {lv k : Nat} {x m C : Str} {ps : List Str} {sp : Sp} {p pos apos : Pos} {e o : Expr} {es : List Expr} {ta : TE} {t : TA} {E : XK}
theorem pmethXK {pl : Sem Bool} {K : Frag} (hK : X.K = K) (h : HasM X.prog X.w X.K X.mg X.base (L2.CX X.prog X.w) lv C m ps sp) (hx : Passes (L2.CX X.prog X.w) X E) (he : PE X o ta) (hr : Room k X.A) (ha : PA X (e :: es) t) (hl : lv ≤ k := by decide)
    (hst : starEach (e :: es) X.env = (false, eval e X.env) :: starEach es X.env := by rfl) (hpl : (backTo pos (starEach es X.env)).any (·.1) = false := by rfl)
    (ht : eval (.Call (.Attribute o m apos) (e :: es) [] pos) X.env = (eval o X.env >>= fun ov => standAt apos.atName >>= fun _ => holding [ov] (getMethod ov m pl) >>= fun q => callWith pos q.1 q.2 (backTo pos (starEach (e :: es) X.env)) (backToKw pos (keywordEach [] X.env))) := by rfl) : PE X (.Call (.Attribute o m apos) (e :: es) [] pos) (tMeth (He.ga K C) m sp [] E ta t) := by
  subst hK
  exact pmethX (pl := pl) h hx he hr ha hl hst hpl ht
theorem pgone {T : List (Addr × Str)} {c P : Addr} {params : Arguments} {body : Expr} {scope : Scope} {tt : XK → TE} {lpos : Pos} (hg : Gl X "_law_gone") (D : GoneDef X.K X.mg) (G : Tg X.K X.mg) (TB : LamX.TabB X.base X.mg c P) (hcode : X.env.code = .ref c)
    (hmT : (P, X.env.qual ++ "<lambda>") ∈ T) (hu : ∀ p ∈ T, p.1 = P → p.2 = X.env.qual ++ "<lambda>") (hr : Room k X.A) (L : LamX.LamS X.env.scope scope) (hdef : defaultsOf params X.env = ([], []))
    (hbind : ∀ (q : Str) (cl : List (Str × Addr)) (pm cv ctv : Value), bindArgs (PySem.W.kla_fn "<lambda>" q params body scope cl pm cv ctv) ⟨[], []⟩ = pure [])
    (hbody : ∀ (A : Around) (outer : List Env) (s : Shared) (H : Hp) (E : XK) (f c' : Addr), Room 9 (A.deeper (LamX.lamEnv X scope s.heap.objs.size f c')) → PE (LamX.lamCx X A outer s H E scope f c') body (tt E)) (hl : 11 ≤ k := by decide) :
    PE X (.Call (.Name "_law_gone" p) [.Lambda params body scope lpos] [] pos) (LamX.tLam T (TTgone X.K (cGon X.K)) tt) := by
  obtain ⟨g, fd, F, hm, hb⟩ := D
  obtain ⟨oc, od, dV, kV, doc, pm, an, cdv, ct, osl, rfl, lk, hcd, _, _⟩ := F.ex
  exact LamX.pe_lamcall (k := 9) (Ng := ["_law_deed", "_law_wrong", "_law_told", "e"]) (a := "_law_deed") hg hm F.kp lk hcd hb sc_gone rfl (.inl rfl) (gone_gives G.gG) TB hcode hmT hu (hr.mono hl) L hdef hbind hbody
end
theorem okT {P : Program} {w : World} {K : Frag} {mg : Str → Option Value} {base : Heap} {x : Str} {params : Arguments} {body : List Stmt} {scope : Scope} {dvs : List V} {kws : List (Str × V)} {fd : FuncData} {CX : CXT} {N ps : List Str} {k : Nat} {sp : Sp}
    (F : FunD K x x params body scope dvs kws (He.fAd K (x, none)) fd) (S : FnScope N ps scope) (len : ∀ vs H Q E, sp vs H Q E → vs.length = ps.length)
    (hbody : ∀ (cdv : Value), cdv = .ref (He.cT K (x, none)).1 → ∀ (A : Around) (outer : List Env) (s : Shared) (H : Hp) (vs : List V) (Q : VK) (E : XK), Room k (A.deeper (envOfC x scope s.heap.objs.size (He.fAd K (x, none)) cdv)) → sp vs H Q E →
      ∃ t, PSs (cxOf CX P w K mg base N x scope (He.fAd K (x, none)) cdv A outer s H E) body t ∧ t { nx := fun _ H' => Q .non H', rt := Q } (L2.start N vs) H) : FnOk P w K mg base CX (k + 1) (He.fAd K (x, none)) fd ps sp := by
  obtain ⟨oc, od, dV, kV, doc, pm, an, cdv, ct, osl, rfl, lk, hcd, _, _⟩ := F.ex
  obtain ⟨c, hc⟩ := He.codeIn_ref hcd
  have e : He.codeOf K (x, none) = c := He.codeOf_eq lk (by rw [← hc])
  exact fn_of lk hcd S len fun A outer s H vs Q E hr hsp => hbody cdv (by rw [hc, ← e]; rfl) A outer s H vs Q E hr hsp
/-! ### equal data -/
theorem lay_all {ds : List PyData} (h : ∀ d ∈ ds, d.canLay0 = true) : PyData.canLayAll0 ds = true := by
  induction ds with
  | nil => rfl
  | cons d ds ih =>
    show (d.canLay0 && PyData.canLayAll0 ds) = true
    rw [h d (by simp), ih fun x hx => h x (by simp [hx])]
    rfl
theorem depth_all {ds : List PyData} (h : ∀ d ∈ ds, d.depth ≤ 60) : PyData.depthAll ds ≤ 60 := by
  induction ds with
  | nil => exact Nat.zero_le _
  | cons d ds ih =>
    show max d.depth (PyData.depthAll ds) ≤ 60
    have := h d (by simp)
    have := ih fun x hx => h x (by simp [hx])
    omega
theorem shaped_list {ds : List PyData} (h : ∀ d ∈ ds, d.canLay0 = true ∧ d.depth ≤ 60) : SeqAt.shaped (.list ds) = true := by
  unfold SeqAt.shaped
  have h1 : (PyData.list ds).canLay0 = true := lay_all fun d hd => (h d hd).1
  have h2 : (PyData.list ds).depth ≤ 64 := by
    have := depth_all fun d hd => (h d hd).2
    show PyData.depthAll ds + 1 ≤ 64
    omega
  rw [h1, decide_eq_true h2]
  rfl
theorem dp_iv {K : Frag} {H : Hp} : ∀ g : List Nat, DpAll K H (iV g) (g.map fun n : Nat => PyData.int n)
  | [] => .nil
  | n :: g => .cons (.int _) (dp_iv g)
theorem ints_ok (g : List Nat) : ∀ d ∈ g.map (fun n : Nat => PyData.int n), d.canLay0 = true ∧ d.depth ≤ 60 := fun d hd => by
  obtain ⟨n, _, rfl⟩ := List.mem_map.mp hd
  exact ⟨rfl, Nat.zero_le _⟩
theorem eqv_same {d : PyData} (h : SeqAt.shaped d = true) : PyData.eqv d d = true := SeqAt.eqv_refl d (SeqAt.canLay_of_shaped h)
theorem pair_ok (a b : Int) : SeqAt.shaped (.tuple [.int a, .int b]) = true := rfl
theorem occs_get (u t : Wd) (i : Nat) (h : i ≤ L t) : (occs (u ++ t) (M u))[i]? = some (bs u t i) := by
  have hi : i < L t + 1 := by omega
  rw [occs_M, List.getElem?_map, List.getElem?_range hi]
  rfl
theorem occs_len (u t : Wd) : (occs (u ++ t) (M u)).length = L t + 1 := by rw [occs_M]; simp
theorem cnt_next (u t : Wd) (i : Nat) (h : i ≤ L t) : cnt (occs (u ++ t) (M u)) (bs u t i + 1) = i + 1 := by
  have hi : i < (occs (u ++ t) (M u)).length := by rw [occs_len]; omega
  have e : (occs (u ++ t) (M u))[i] = bs u t i := by
    have := occs_get u t i h
    rw [List.getElem?_eq_getElem hi] at this
    exact Option.some.inj this
  have := cnt_at1 (occs_sorted (u ++ t) (M u)) hi
  rwa [e] at this
theorem cnt_last (u t : Wd) (i : Nat) (h : i ≤ L t) : cnt (occs (u ++ t) (M u)) (bs u t i) = i := by
  have hi : i < (occs (u ++ t) (M u)).length := by rw [occs_len]; omega
  have e : (occs (u ++ t) (M u))[i] = bs u t i := by
    have := occs_get u t i h
    rw [List.getElem?_eq_getElem hi] at this
    exact Option.some.inj this
  have := cnt_at (occs_sorted (u ++ t) (M u)) hi
  rwa [e] at this
/-! ### what stands while a walker walks: w a list of its numbers -/
structure RR (K : Frag) (H0 H : Hp) (v e l : Addr) (p : Wd) (pos : Nat) : Prop where
  kp : KpN v H0 H
  tb : LamX.Tabs (tabs K) H
  wal : WalAt K H v e pos
  pre : PreAt K H e l p 1
theorem RR.ex {K : Frag} {H0 H H1 : Hp} {v e l : Addr} {p : Wd} {pos : Nat} (h : RR K H0 H v e l p pos) (x : Evl.Ex H H1) : RR K H0 H1 v e l p pos := ⟨h.kp.ex x, h.tb.ext x, h.wal.ex x, h.pre.ex x⟩
theorem RR.extN {K : Frag} {H0 H H1 : Hp} {v e l : Addr} {p : Wd} {pos : Nat} (h : RR K H0 H v e l p pos) (x : LamX.ExtN H H1) (t : LamX.Tabs (tabs K) H1) : RR K H0 H1 v e l p pos := ⟨h.kp.trans (KpN.extN x), t, h.wal.extN x, h.pre.extN x⟩
theorem WalAt.no_pre {K : Frag} {H : Hp} {v e l e' : Addr} {p : Wd} {n m : Nat} (h : WalAt K H v e' n) (q : PreAt K H e l p m) (hne : cWal K ≠ cPre K) : e ≠ v ∧ l ≠ v := by
  obtain ⟨dx, g⟩ := h
  obtain ⟨⟨dy, r, g1⟩, ws, g2, _⟩ := q
  refine ⟨fun z => ?_, fun z => ?_⟩
  · rw [z, g] at g1
    injection g1 with g1
    injection g1 with g1
    exact hne g1
  · rw [z, g] at g2
    cases g2
theorem RR.go {K : Frag} {H0 H H1 : Hp} {v e l : Addr} {p : Wd} {pos o : Nat} (h : RR K H0 H v e l p pos) (hne : cWal K ≠ cPre K) (w : WalAt K H1 v e o) (x : Kp v H H1) : RR K H0 H1 v e l p o := by
  obtain ⟨n1, n2⟩ := h.wal.no_pre h.pre hne
  obtain ⟨dx, g⟩ := h.wal
  exact ⟨h.kp.trans (KpN.kp x), tabs_ins h.tb x g, w, h.pre.kpn (KpN.kp x) n1 n2⟩
/-- a list that H0 does not know may change -/
theorem RR.app {K : Frag} {H0 H : Hp} {v e l a : Addr} {p : Wd} {pos : Nat} {xs ys : List V} (h : RR K H0 H v e l p pos) (ha : H0 a = none) (hx : H a = some (.lst xs)) (hal : l ≠ a) : RR K H0 (upd H a (.lst ys)) v e l p pos := by
  obtain ⟨dx, g⟩ := h.wal
  obtain ⟨⟨dy, r, g1⟩, ws, g2, g3⟩ := h.pre
  have hva : v ≠ a := fun z => by rw [z, hx] at g; cases g
  have hea : e ≠ a := fun z => by rw [z, hx] at g1; cases g1
  exact ⟨h.kp.mut ha, tabs_lst h.tb ((Kp.refl a H).at) hx, ⟨dx, by rw [upd_ne hva]; exact g⟩, ⟨⟨dy, r, by rw [upd_ne hea]; exact g1⟩, ws, by rw [upd_ne hal]; exact g2, g3⟩⟩
theorem RR.ok {K : Frag} {H0 H : Hp} {v e l : Addr} {p z : Wd} {pos : Nat} (h : RR K H0 H v e l p pos) (hp : PrOk p) (hz : Good z) (hl : z.length ≤ 200) (ho : ∃ j, Occ z (M p) j) : GoOk K H v e l p z pos 1 := ⟨h.wal, h.pre, hp, hz, hl, ho⟩
/-- from what was before the walker to what is now -/
theorem StAt.rr {K : Frag} {H0 H : Hp} {v e l sd : Addr} {p : Wd} {pos : Nat} (s : StAt H0 sd) (w0 : ∃ n, WalAt K H0 v e n) (h : RR K H0 H v e l p pos) : StAt H sd := by
  obtain ⟨n, dx, g⟩ := w0
  refine s.kpn h.kp (s.ne g (fun kvs z => by cases z)) fun o ho xs z => ?_
  rw [z, g] at ho
  cases ho
end Mw
end
section
set_option Elab.async false
set_option linter.all false
set_option maxRecDepth 100000
set_option maxHeartbeats 4000000
/-! _law_read_right -/
namespace Mw
open PySem PySem.Spec PyProof.Rows L2 Mir Mr
def sp__law_read_right (K : Frag) : Sp := fun vs H Q _ => ∃ (sd : Addr) (p : Wd) (c : Nat), vs = [.ref sd, .str (tx p), .int c] ∧ StAt H sd ∧ LamX.Tabs (tabs K) H ∧ PrOk p ∧ c < p.length ∧ L (p.take c) ≤ 100 ∧
  ∀ H', StAt H' sd → LamX.Tabs (tabs K) H' → KpN sd H H' → Q (.bl true) H'
section
variable {P : Program} {w : World} {K : Frag} {mg : Str → Option Value} {base : Heap}
theorem sc__law_read_right : FnScope ["_law_state_here", "_law_row_here", "_law_cut", "_law_presser", "_law_piece", "_law_far", "_law_number", "_law_walker", "_law_went", "_law_sign", "_law_back", "_law_k"] ["_law_state_here", "_law_row_here", "_law_cut"] (defScope (top 73)) := ⟨rfl, rfl, rfl, by decide +kernel, rfl, by decide +kernel, by decide +kernel⟩
def H__law_read_right (P : Program) (w : World) (K : PySem.W.Frag) (mg : Str → Option Value) (base : Heap) : Prop := Has P w K mg base (CX0) 12 "_law_read_right" ["_law_state_here", "_law_row_here", "_law_cut"] (sp__law_read_right K)
theorem ok__law_read_right {fd : FuncData} (F : FunD K "_law_read_right" "_law_read_right" (defArgs (top 73)) (defBody (top 73)) (defScope (top 73)) [] [] (He.fAd K ("_law_read_right", none)) fd) (T : Tp K mg) (G : Tg K mg) (hGn : GoneDef K mg) (D3 : Dist K) (hne : cWal K ≠ cPre K) (TB : LamX.TabB base mg (He.cT K ("_law_read_right", none)).1 (He.cT K ("_law_read_right", none)).2) (h_mirror_text : H_mirror_text P w K mg base) (h_Presser___init__ : H_Presser___init__ P w K mg base) (h__law_size : H__law_size P w K mg base) (h__law_great : H__law_great P w K mg base) (h_Presser_walker : H_Presser_walker P w K mg base) (h_block_start : H_block_start P w K mg base) (h_Walker_stands : H_Walker_stands P w K mg base) (h_letter_at : H_letter_at P w K mg base) (h_Walker_next_of : H_Walker_next_of P w K mg base) (h_block_length : H_block_length P w K mg base) (h_block_of : H_block_of P w K mg base) (h_Presser_size : H_Presser_size P w K mg base) (h_Walker_last_of : H_Walker_last_of P w K mg base) : FnOk P w K mg base (CX0) 12 (He.fAd K ("_law_read_right", none)) fd ["_law_state_here", "_law_row_here", "_law_cut"] (sp__law_read_right K) := by
  refine okT F sc__law_read_right (fun vs H Q E h => by (obtain ⟨_, _, _, rfl, _⟩ := h; rfl)) (fun cdv hcode A outer s H vs Q E hr h => ?_)
  obtain ⟨sd, p, c, rfl, hs, ht, hp, hc, hL, k⟩ := h
  refine ⟨_, PSs.nox (pss_cons (ps_asg (pe_tup (pa_cons (pmake h_Presser___init__ hr rfl (pa_cons (pv 1) pa_nil)) (pa_cons (pcall h_mirror_text hr rfl (pa_cons (pe_slice sl_str (pv 1) po_none (po_some (pv 2))) pa_nil)) pa_nil))) (pg_tup rfl (pgs_cons (pg_name (i := 3) sc__law_read_right.nd rfl (Or.inl rfl)) (pgs_cons (pg_name (i := 4) sc__law_read_right.nd rfl (Or.inr rfl)) pgs_nil)))) (pss_cons (ps_set (i := 5) sc__law_read_right.nd rfl (Or.inl rfl) (pcall h__law_size hr rfl (pa_cons (pe_slice sl_str (pv 1) (po_some (pv 2)) po_none) pa_nil))) (pss_cons (ps_set (i := 6) sc__law_read_right.nd rfl (Or.inl rfl) (pcall h__law_great hr rfl (pa_cons (pv 0) (pa_cons (pv 5) pa_nil)))) (pss_cons (ps_set (i := 7) sc__law_read_right.nd rfl (Or.inr rfl) (pmeth h_Presser_walker (pv 3) hr (pa_cons (pcall h_block_start hr rfl (pa_cons (pv 1) (pa_cons (pv 2) (pa_cons (pv 6) pa_nil)))) pa_nil))) (pss_cons (ps_set (i := 8) sc__law_read_right.nd rfl (Or.inl rfl) (pe_lst (pa_cons (pmeth0 h_Walker_stands (pv 7) hr) pa_nil))) (Evl.pss_cut (ps_while PassesOwn.never (PW.pt (pw_and (pt_cmpR op_lt (pv 6) (pv 5) (nomark _)) (pw_and1 (pt_cmpR op_lt (pe_callB call_len_seq (by rfl) T.len PySem.boot_len (pa_cons (pv 8) pa_nil)) pe_int (nomark _))))) (pss_cons (ps_set (i := 9) sc__law_read_right.nd rfl (Or.inl rfl) (pcall h_letter_at hr rfl (pa_cons (pe_slice sl_str (pv 1) (po_some (pv 2)) po_none) (pa_cons (pv 6) pa_nil)))) (pss_cons (ps_if (pt_cmpR op_ne (pcall h_letter_at hr rfl (pa_cons (pv 1) (pa_cons (pe_op op_add (pe_ix ix_list (pv 8) (pe_un un_neg pe_int) (fun _ _ => rfl)) (pe_callB call_len_str (by rfl) T.len PySem.boot_len (pa_cons (pv 4) pa_nil))) pa_nil))) (pv 9) (nomark _)) (pss_one (ps_ret pe_bl)) pss_nil) (pss_cons (ps_set (i := 6) sc__law_read_right.nd rfl (Or.inl rfl) (pe_op op_add (pv 6) pe_int)) (pss_cons (ps_if (pt_cmpR op_ne (pmethX h_Walker_next_of passX0 (pv 7) hr (pa_cons (pv 4) pa_nil)) (pe_op op_add (pe_ix ix_list (pv 8) (pe_un un_neg pe_int) (fun _ _ => rfl)) (pcall h_block_length hr rfl (pa_cons (pe_slice sl_str (pv 1) po_none (po_some (pv 2))) (pa_cons (pv 9) pa_nil)))) (nomark _)) (pss_one (ps_ret pe_bl)) pss_nil) (Evl.pss_cut (ps_if (PW.pt (pw_and (pt_cmpR op_ne (pv 4) pe_str (nomark _)) (pw_and (pt_cmpR op_lt (pmeth0 h_Walker_stands (pv 7) hr) (pmeth0 h_Presser_size (pv 3) hr) (nomark _)) (pw_and1 (pt_cmpR (op_neD hr.units) (pcall h_block_of hr rfl (pa_cons (pv 1) (pa_cons (pv 2) (pa_cons (pmeth0 h_Walker_stands (pv 7) hr) pa_nil)))) (pe_tup (pa_cons (pv 6) (pa_cons pe_int pa_nil))) (nomark _)))))) (pss_one (ps_ret pe_bl)) pss_nil) (pss_one (ps_expr (pe_bm PySem.F.plainAttrs_list PySem.F.slot_list_append PySem.F.type_list_append mt_append (pv 8) (pa_cons (pmeth0 h_Walker_stands (pv 7) hr) pa_nil)))))))))) (Evl.pss_cut (ps_if (PW.pt (pw_and (pt_cmpR op_eq (pv 6) (pv 5) (nomark _)) (pw_and1 (pt_cmpR op_notN (pgone rfl hGn G TB hcode (in_r K) (hu_r D3) hr (LamX.lamS_by (sc := defScope (top 73)) (by decide +kernel)) rfl (fun _ _ _ _ _ => rfl) (fun A outer s H E f c hr => (pmethXK (K := K) rfl h_Walker_next_of (passes_call (W := fun cls d _ H => E cls d H) (takes_of rfl rfl rfl rfl) (fun _ _ _ _ q => q)) (pv 7) hr (pa_cons (pv 4) pa_nil)))) pe_non (nomark _))))) (pss_one (ps_ret pe_bl)) pss_nil) (pss_cons (ps_setLc (i := 10) (own := [("_law_k", 11)]) (g := gName 11) (tt := tYes) rfl sc__law_read_right.nd rfl rfl (sw_true rfl rfl rfl (by decide +kernel)) (pi_list (pe_slice sl_list (pv 8) (po_some pe_int) po_none)) (blkOk_by (own := [("_law_k", 11)]) (N := ["_law_state_here", "_law_row_here", "_law_cut", "_law_presser", "_law_piece", "_law_far", "_law_number", "_law_walker", "_law_went", "_law_sign", "_law_back", "_law_k"]) (sc := defScope (top 73)) (by decide +kernel)) (fun _ _ _ _ _ => pg_name (i := 11) sc__law_read_right.nd rfl (Or.inl rfl)) (fun _ _ _ _ _ => pts_nil) (fun _ _ _ _ _ => (pmethXK (K := K) rfl h_Walker_last_of passX0 (pv 7) hr (pa_cons (pv 4) pa_nil)))) (pss_one (ps_ret (pe_and (pe_cmpR (op_eqD hr.units) (pv 10) (pe_revL (pe_slice sl_list (pv 8) po_none (po_some (pe_un un_neg pe_int)))) (nomark _)) (pe_one (pe_cmpR op_eq (pmeth0 h_Walker_stands (pv 7) hr) (pe_ix ix_list (pv 8) pe_int (fun _ _ => rfl)) (nomark _)))))))))))))), ?_⟩
  obtain ⟨u, t, rfl, rfl⟩ : ∃ u t : Wd, p = u ++ t ∧ c = u.length := ⟨p.take c, p.drop c, by simp, by simp; omega⟩
  have hut : (u ++ t).take u.length = u := List.take_left' rfl
  have hdt : (u ++ t).drop u.length = t := List.drop_left' rfl
  rw [hut] at hL
  have hlen := hp.len
  have hpu : PrOk u := by have := hp.take u.length; rwa [hut] at this
  have hpt : PrOk t := by have := hp.drop u.length; rwa [hdt] at this
  have ht1 : 1 ≤ t.length := by rw [List.length_append] at hc; omega
  have hLt : 1 ≤ L t := Nat.le_trans ht1 (L_ge t)
  have hLu : (M u).length = L u := rfl
  have hlp : (tx (u ++ t)).length ≤ 100000 := by rw [tx_len]; omega
  have hz : Good (M u) := hpu.good.M
  have ho : ∃ j, Occ (M u) (M (u ++ t)) j := ⟨_, (occ_M u t _).mpr ⟨0, Nat.zero_le _, rfl⟩⟩
  -- the presser, the piece
  refine ⟨_, rfl, fun e dx he hdx hne0 => ⟨e, dx, _, rfl, upd_same, hp, fun l H1 hl hpre k1 => ⟨rfl, ?_⟩⟩⟩
  have x0 : Evl.Ex H (upd (upd H dx (.own e)) e (.ins (cPre K) dx [])) := ((Evl.Ex.refl H).mut hdx).mut he
  have hlH : H l = none := Evl.fresh_back x0 hl
  have e01 : Evl.Ex H H1 := fun b o hb => k1 b o (x0 b o hb) (ne_of_none hb he)
  refine ⟨_, rfl, _, rfl, _, rfl, _, rfl, Evl.sz_of hlp, ?_⟩
  rw [cutS_hi, hut]
  refine ⟨_, rfl, hpu, by omega, fun H2 e2 => ⟨by show 2 ≤ sizeLine; decide, fun q hq => ⟨q, _, rfl, SqT.of upd_same, rfl, _, _, rfl, _, _, rfl, rfl, ?_⟩⟩⟩
  have e03 : Evl.Ex H (upd H2 q (.tup [.ref e, .str (tx (M u))])) := (e01.trans e2).trans (Evl.Ex.new hq)
  have hpre3 : PreAt K (upd H2 q (.tup [.ref e, .str (tx (M u))])) e l (u ++ t) 0 := (hpre.ex e2).ex (Evl.Ex.new hq)
  have ht3 : LamX.Tabs (tabs K) (upd H2 q (.tup [.ref e, .str (tx (M u))])) := ht.ext e03
  generalize upd H2 q (.tup [.ref e, .str (tx (M u))]) = H3 at e03 hpre3 ht3 ⊢
  -- how far
  refine ⟨_, rfl, _, rfl, _, rfl, _, rfl, Evl.sz_of hlp, ?_⟩
  rw [cutS_lo', hdt]
  refine ⟨_, rfl, hpt, fun H4 e4 => ?_⟩
  have hs4 : StAt H4 sd := hs.ex (e03.trans e4)
  refine ⟨_, rfl, _, rfl, sd, _, rfl, hs4, by omega, fun n0 H5 hn0 hn1 hs5 k5 => ?_⟩
  obtain ⟨n, rfl⟩ : ∃ n : Nat, n0 = (n : Nat) := ⟨n0.toNat, by omega⟩
  have hnL : n < L t := by omega
  have sde : e ≠ sd := fun z => by
    obtain ⟨kvs, hk⟩ := hs.dk
    rw [← z, he] at hk
    cases hk
  have sdl : l ≠ sd := fun z => by
    obtain ⟨kvs, hk⟩ := hs.dk
    rw [← z, hlH] at hk
    cases hk
  have hpre5 : PreAt K H5 e l (u ++ t) 0 := (hpre3.ex e4).kpn (KpN.kp k5) sde sdl
  have ht5 : LamX.Tabs (tabs K) H5 := by
    obtain ⟨kvs, hk⟩ := hs4.dk
    exact tabs_dk (ht3.ext e4) k5 hk
  have kp05 : Kp sd H H5 := (Kp.of (e03.trans e4)).trans k5
  have hbse := bs_le_end u t n (by omega)
  -- the walker
  obtain ⟨⟨dxe, r, hpe⟩, hpl⟩ := id hpre5
  refine ⟨_, rfl, e, dxe, _, rfl, hpe, prF_no _ _ _ (by decide +kernel) (by decide +kernel) (by decide +kernel), _, rfl, _, rfl, _, rfl, u ++ t, u.length, n, rfl, hp, by omega, by rw [hdt]; omega, fun H6 e6 => ?_⟩
  rw [hut, hdt]
  refine ⟨e, l, u ++ t, _, rfl, hpre5.ex e6, hp, by omega, fun v H7 hv hw7 hpre7 k7 => ?_⟩
  have hs6 := hs5.ex e6
  have ht6 := ht5.ext e6
  have hpre6 := hpre5.ex e6
  have hs7 : StAt H7 sd := by
    obtain ⟨lf, pc, tn, a, cs, g1, g2, g3⟩ := hs6
    obtain ⟨_, ws, gl, gl2⟩ := hpre6
    exact ⟨lf, pc, tn, a, cs, k7 _ _ g1 (Ne.symm sdl), k7 _ _ g2 (fun z => by
      rw [z, gl] at g2
      injection g2 with g2
      injection g2 with g2
      rw [g2, List.length_map] at gl2
      omega), g3⟩
  have ht7 : LamX.Tabs (tabs K) H7 := by
    obtain ⟨_, ws, gl, gl2⟩ := hpre6
    exact tabs_lst ht6 k7 gl
  have hvH : H v = none := by
    cases z : H v with
    | none => rfl
    | some o =>
      by_cases zz : v = sd
      · obtain ⟨kvs, hk⟩ := hs6.dk
        rw [zz, hk] at hv
        cases hv
      · have := e6 _ _ (kp05 _ _ z zz)
        rw [hv] at this
        cases this
  have kp07 : KpN sd H H7 := fun b o hb n1 _ => k7 _ _ (e6 _ _ (kp05 b o hb n1)) (ne_of_none hb hlH)
  have rr7 : RR K H7 H7 v e l (u ++ t) (bs u t n) := ⟨KpN.refl v H7, ht7, hw7, hpre7⟩
  have w0 : ∃ n, WalAt K H7 v e n := ⟨_, hw7⟩
  have last : ∀ H', RR K H7 H' v e l (u ++ t) (bs u t n) → Q (.bl true) H' := fun H' h' => k H' (hs7.rr w0 h') h'.tb (kp07.new hvH h'.kp)
  -- its first number
  obtain ⟨dxv, hwv⟩ := id hw7
  refine ⟨_, rfl, v, dxv, _, rfl, hwv, waF_no _ _ (by decide +kernel) (by decide +kernel), v, e, _, rfl, hw7, fun H8 e8 => ⟨by show 1 ≤ sizeLine; decide, fun w hw => ?_⟩⟩
  have hwH7 : H7 w = none := Evl.fresh_back e8 hw
  have rr8 := (rr7.ex e8).ex (Evl.Ex.new (o := .lst [.int (bs u t n : Nat)]) hw)
  have hlw : l ≠ w := fun z => by
    obtain ⟨_, ws, gl, _⟩ := hpre7
    rw [z, hwH7] at gl
    cases gl
  have hw8 : upd H8 w (.lst [.int (bs u t n : Nat)]) w = some (.lst (iV ((List.range (0 + 1)).map fun i => bs u t (n + i)))) := by rw [upd_same]; rfl
  generalize upd H8 w (.lst [.int (bs u t n : Nat)]) = H9 at rr8 hw8 ⊢
  refine ⟨fun σ H' => ∃ (j : Nat) (x9 : Option V), σ = [some (.ref sd), some (.str (tx (u ++ t))), some (.int (u.length : Nat)), some (.ref e), some (.str (tx (M u))), some (.int (L t : Nat)), some (.int ((n + j : Nat) : Int)), some (.ref v), some (.ref w), x9, none, none] ∧ j ≤ 15 ∧ n + j ≤ L t ∧
    RR K H7 H' v e l (u ++ t) (bs u t (n + j)) ∧ H' w = some (.lst (iV ((List.range (j + 1)).map fun i => bs u t (n + i)))), ?_, ?_⟩
  · -- the steps on
    refine ⟨fun m σ H' => ∃ (j : Nat) (x9 : Option V), m = 15 - j ∧ σ = [some (.ref sd), some (.str (tx (u ++ t))), some (.int (u.length : Nat)), some (.ref e), some (.str (tx (M u))), some (.int (L t : Nat)), some (.int ((n + j : Nat) : Int)), some (.ref v), some (.ref w), x9, none, none] ∧ j ≤ 15 ∧ n + j ≤ L t ∧
      RR K H7 H' v e l (u ++ t) (bs u t (n + j)) ∧ H' w = some (.lst (iV ((List.range (j + 1)).map fun i => bs u t (n + i)))), ⟨15, 0, none, rfl, rfl, Nat.zero_le _, by omega, rr8, hw8⟩, ?_⟩
    rintro m σ Ha ⟨j, x9, rfl, rfl, hj, hnj, rra, hwa⟩
    have hgl : (iV ((List.range (j + 1)).map fun i => bs u t (n + i))).length = j + 1 := by rw [iV_len]; simp
    refine ⟨_, rfl, _, rfl, _, _, rfl, rfl, _, rfl, ite2 (fun h1 => ?_) (fun h1 => ?_)⟩
    · have h1 : ((n + j : Nat) : Int) < (L t : Nat) := of_decide_eq_true h1
      refine ⟨_, rfl, _, _, rfl, .inl (SqL.of hwa), _, _, rfl, rfl, _, rfl, ite2 (fun h2 => ?_) (fun h2 => ?_)⟩
      · have h2 := of_decide_eq_true h2
        rw [hgl] at h2
        have hj14 : j ≤ 14 := by omega
        have hnj2 : n + j < L t := by omega
        have hlast : atI (iV ((List.range (j + 1)).map fun i => bs u t (n + i))) (-1) = some (.int (bs u t (n + j) : Nat)) := by
          refine atI_neg1 (ys := iV ((List.range j).map fun i => bs u t (n + i))) ?_
          rw [List.range_succ, List.map_append]; simp [iV]
        have hrd := read_at u t (n + j) _ (at_some t (n + j) hnj2)
        have hend := bs_le_end u t (n + j + 1) (by omega)
        have hlt := bs_lt_succ u t (n + j) hnj2
        have hstep := bs_step u t (n + j) _ (at_some t (n + j) hnj2)
        have hgood := hpt.good.at_ hnj2
        have hat : at_ (u ++ t) (bs u t (n + j) + L u) = at_ t (n + j) := by
          have := at_some (u ++ t) (bs u t (n + j) + L u) (by omega)
          rw [hrd] at this
          exact (Option.some.inj this).symm
        refine ⟨fun σ' H' => ∃ x9 : Option V, σ' = [some (.ref sd), some (.str (tx (u ++ t))), some (.int (u.length : Nat)), some (.ref e), some (.str (tx (M u))), some (.int (L t : Nat)), some (.int ((n + (j + 1) : Nat) : Int)), some (.ref v), some (.ref w), x9, none, none] ∧
          RR K H7 H' v e l (u ++ t) (bs u t (n + (j + 1))) ∧ H' w = some (.lst (iV ((List.range (j + 1 + 1)).map fun i => bs u t (n + i)))), ?_, ?_⟩
        · rintro σ' H' ⟨x9, rfl, r1, r2⟩
          exact ⟨15 - (j + 1), by omega, j + 1, x9, rfl, rfl, by omega, by omega, r1, r2⟩
        · -- its letter
          refine ⟨_, rfl, _, rfl, _, rfl, _, rfl, Evl.sz_of hlp, ?_⟩
          rw [cutS_lo', hdt]
          refine ⟨_, rfl, t, n + j, rfl, hpt, hnj2, fun Hb eb => ?_⟩
          have rrb := rra.ex eb
          have hwb := eb _ _ hwa
          refine ⟨_, rfl, _, rfl, _, rfl, _, _, _, _, rfl, rfl, SqL.of hwb, hlast, _, rfl, _, rfl, Evl.sz_of (by rw [tx_len]; omega), _, _, rfl, rfl, u ++ t, bs u t (n + j) + L u, by rw [tx_len]; rfl, hp, by omega, fun Hc ec => ⟨_, rfl, rfl, _, rfl, ifF (by rw [hat]; simp) ?_⟩⟩
          have rrc := rrb.ex ec
          have hwc := ec _ _ hwb
          -- it goes on
          refine ⟨_, rfl, _, _, rfl, rfl, ?_⟩
          obtain ⟨dy, hwy⟩ := id rrc.wal
          refine ⟨_, rfl, v, dy, _, rfl, hwy, waF_no _ _ (by decide +kernel) (by decide +kernel), _, rfl, v, e, l, u ++ t, M u, _, _, rfl, rrc.ok hp hz (by omega) ho, by omega, ⟨fun o Hd _ hoo hwd kd => ?_, fun hno => absurd ?_ hno⟩⟩
          · rw [cnt_next u t (n + j) (by omega)] at hoo
            have hoo2 := occs_get u t (n + j + 1) (by omega)
            have eo : o = bs u t (n + j + 1) := by
              have : (occs (u ++ t) (M u))[n + j + 1]? = some o := hoo
              rw [hoo2] at this
              exact (Option.some.inj this).symm
            subst eo
            have rrd := rrc.go hne hwd kd
            have hwd2 : Hd w = some (.lst (iV ((List.range (j + 1)).map fun i => bs u t (n + i)))) := kd _ _ hwc (fun z => by rw [← z, hwc] at hwy; cases hwy)
            refine ⟨_, rfl, _, rfl, _, _, _, _, rfl, rfl, SqL.of hwd2, hlast, _, rfl, _, rfl, _, rfl, _, rfl, Evl.sz_of hlp, ?_⟩
            rw [cutS_hi, hut]
            refine ⟨_, rfl, u, at_ t (n + j), rfl, hpu, hgood.1, hgood.2, fun He ee => ⟨_, _, rfl, rfl, rfl, _, rfl, ifF ?_ ?_⟩⟩
            · have : ((bs u t (n + j + 1) : Nat) : Int) = (bs u t (n + j) : Int) + (gr u (at_ t (n + j)) : Nat) := by rw [hstep]; omega
              rw [this]; simp
            · have rre := rrd.ex ee
              have hwe := ee _ _ hwd2
              -- where it stands
              refine ⟨fun σ' H' => ∃ x9 : Option V, σ' = [some (.ref sd), some (.str (tx (u ++ t))), some (.int (u.length : Nat)), some (.ref e), some (.str (tx (M u))), some (.int (L t : Nat)), some (.int ((n + (j + 1) : Nat) : Int)), some (.ref v), some (.ref w), x9, none, none] ∧
                RR K H7 H' v e l (u ++ t) (bs u t (n + (j + 1))) ∧ H' w = some (.lst (iV ((List.range (j + 1)).map fun i => bs u t (n + i)))), ?_, ?_⟩
              · have enum : ((n + j : Nat) : Int) + 1 = ((n + (j + 1) : Nat) : Int) := by omega
                have fall : ∀ H', Evl.Ex He H' → ∃ x9' : Option V, ([some (.ref sd), some (.str (tx (u ++ t))), some (.int (u.length : Nat)), some (.ref e), some (.str (tx (M u))), some (.int (L t : Nat)), some (.int (((n + j : Nat) : Int) + 1)), some (.ref v), some (.ref w), some (.str (tx [at_ t (n + j)])), none, none] : L2.St) = [some (.ref sd), some (.str (tx (u ++ t))), some (.int (u.length : Nat)), some (.ref e), some (.str (tx (M u))), some (.int (L t : Nat)), some (.int ((n + (j + 1) : Nat) : Int)), some (.ref v), some (.ref w), x9', none, none] ∧
                  RR K H7 H' v e l (u ++ t) (bs u t (n + (j + 1))) ∧ H' w = some (.lst (iV ((List.range (j + 1)).map fun i => bs u t (n + i)))) := fun H' x => ⟨_, by rw [enum], rre.ex x, x _ _ hwe⟩
                refine ⟨_, rfl, rfl, _, rfl, ite2 (fun hu0 => ?_) (fun hu0 => ?_)⟩
                · obtain ⟨dz, hwz⟩ := id rre.wal
                  obtain ⟨⟨dxq, rq, hpq⟩, hplq⟩ := id rre.pre
                  refine ⟨_, rfl, v, dz, _, rfl, hwz, waF_no _ _ (by decide +kernel) (by decide +kernel), v, e, _, rfl, rre.wal, fun Hf ef => ⟨_, rfl, e, dxq, _, rfl, ef _ _ hpq, prF_no _ _ _ (by decide +kernel) (by decide +kernel) (by decide +kernel), e, l, u ++ t, 1, rfl, rre.pre.ex ef, hp, fun Hg eg => ⟨_, _, rfl, rfl, _, rfl, ite2 (fun hin => ?_) (fun hin => ?_)⟩⟩⟩
                  · have hin := of_decide_eq_true hin
                    have hin' : bs u t (n + j + 1) < L (u ++ t) := by omega
                    have eeg := ef.trans eg
                    refine ⟨_, rfl, _, rfl, _, rfl, v, dz, _, rfl, eeg _ _ hwz, waF_no _ _ (by decide +kernel) (by decide +kernel), v, e, _, rfl, rre.wal.ex eeg, fun Hh eh => ⟨u ++ t, u.length, bs u t (n + j + 1), rfl, hp, by omega, hin', fun q1 Hi hq1 ei hq2 => ?_⟩⟩
                    rw [hdt, hut] at hq2
                    obtain ⟨uq, ur⟩ := (InBlk.start u t (n + j + 1) (by omega)).unique (block_of u t (bs u t (n + j + 1)) (by omega))
                    rw [← uq, ← ur] at hq2
                    refine ⟨_, rfl, by show 2 ≤ sizeLine; decide, fun q2 hq3 => ?_⟩
                    have hq12 : q1 ≠ q2 := ne_of_none hq2 hq3
                    refine ⟨.tuple [.int ((n + j + 1 : Nat) : Int), .int ((0 : Nat) : Int)], .tuple [.int (((n + j : Nat) : Int) + 1), .int 0], .tup (SqT.of (by rw [upd_ne hq12]; exact hq2)) (.cons (.int _) (.cons (.int _) .nil)), .tup (SqT.of upd_same) (.cons (.int _) (.cons (.int _) .nil)), pair_ok _ _, pair_ok _ _, _, rfl, ifF ?_ ?_⟩
                    · have en1 : ((n + j + 1 : Nat) : Int) = ((n + j : Nat) : Int) + 1 := by omega
                      have e0 : (PyData.tuple [.int ((n + j + 1 : Nat) : Int), .int ((0 : Nat) : Int)]) = .tuple [.int (((n + j : Nat) : Int) + 1), .int 0] := by rw [en1]; rfl
                      rw [e0, eqv_same (pair_ok _ _)]
                      rfl
                    · exact fall _ (((eeg.trans eh).trans ei).trans (Evl.Ex.new hq3))
                  · exact iteF (fall Hg (ef.trans eg))
                · exact iteF (fall He (Evl.Ex.refl He))
              · rintro σ' H' ⟨x9', rfl, r1, r2⟩
                obtain ⟨dz, hwz⟩ := id r1.wal
                refine ⟨_, rfl, .inl ⟨rfl, _, SqL.of r2⟩, _, rfl, v, dz, _, rfl, hwz, waF_no _ _ (by decide +kernel) (by decide +kernel), v, e, _, rfl, r1.wal, fun Hf ef => ⟨w, _, _, rfl, rfl, ef _ _ r2, Evl.sz_lt (by rw [hgl]; omega), ?_⟩⟩
                refine ⟨x9', rfl, (r1.ex ef).app hwH7 (ef _ _ r2) hlw, ?_⟩
                rw [upd_same, List.range_succ (n := j + 1), List.map_append]
                simp [iV]
          · rw [cnt_next u t (n + j) (by omega), occs_len]
            omega
      · exact ⟨j, x9, rfl, hj, hnj, rra, hwa⟩
    · exact iteF ⟨j, x9, rfl, hj, hnj, rra, hwa⟩
  · rintro σ Ha ⟨j, x9, rfl, hj, hnj, rra, hwa⟩
    have hgl : (iV ((List.range (j + 1)).map fun i => bs u t (n + i))).length = j + 1 := by rw [iV_len]; simp
    refine ⟨fun σ' H' => σ' = [some (.ref sd), some (.str (tx (u ++ t))), some (.int (u.length : Nat)), some (.ref e), some (.str (tx (M u))), some (.int (L t : Nat)), some (.int ((n + j : Nat) : Int)), some (.ref v), some (.ref w), x9, none, none] ∧
      RR K H7 H' v e l (u ++ t) (bs u t (n + j)) ∧ H' w = some (.lst (iV ((List.range (j + 1)).map fun i => bs u t (n + i)))), ?_, ?_⟩
    · refine ⟨_, rfl, _, rfl, rfl, _, rfl, ite2 (fun h1 => ?_) (fun h1 => ?_)⟩
      · have h1 := of_decide_eq_true h1
        have h1 : n + j = L t := by injection h1 with h1; omega
        refine ⟨rra.tb, fun H1' eN T1 => ?_⟩
        intro H2' Q' e2' hQ
        have rrb := (rra.extN eN T1).ex e2'
        have hwb := e2' _ _ (eN _ _ hwa (fun ps z => by cases z))
        obtain ⟨dz, hwz⟩ := id rrb.wal
        refine ⟨_, rfl, v, dz, _, rfl, hwz, waF_no _ _ (by decide +kernel) (by decide +kernel), _, rfl, v, e, l, u ++ t, M u, _, _, rfl, rrb.ok hp hz (by omega) ho, ?_, ⟨fun o Hd h0 hoo hwd kd => ?_, fun hno H' e' => ⟨true, G.eG, fun _ => ?_, fun z => by cases z⟩⟩⟩
        · have := bs_le_end u t (n + j) hnj
          omega
        · have hoo : (occs (u ++ t) (M u))[cnt (occs (u ++ t) (M u)) (bs u t (n + j) + 1)]? = some o := hoo
          rw [cnt_next u t (n + j) hnj] at hoo
          have := (List.getElem?_eq_some_iff.mp hoo).1
          rw [occs_len] at this
          omega
        · exact ⟨rfl, _, rfl, iteF ⟨rfl, rrb.ex e', e' _ _ hwb⟩⟩
      · exact iteF ⟨rfl, rra, hwa⟩
    · rintro σ' Hb ⟨rfl, rrb, hwb⟩
      -- back
      refine ⟨_, rfl, _, rfl, w, _, rfl, SqL.of hwb, fun q hq => ⟨q, rfl, ⟨_, SqL.of upd_same⟩, fun D hD => ?_⟩⟩
      have ecut : cutV (iV ((List.range (j + 1)).map fun i => bs u t (n + i))) (some 1) none = (iV ((List.range (j + 1)).map fun i => bs u t (n + i))).drop 1 := cutV_lo _ 1 (by rw [hgl]; omega)
      rw [ecut] at hD ⊢
      have hcl : ((iV ((List.range (j + 1)).map fun i => bs u t (n + i))).drop 1).length = j := by rw [List.length_drop, hgl]; omega
      have rq := rrb.ex (Evl.Ex.new (o := .lst ((iV ((List.range (j + 1)).map fun i => bs u t (n + i))).drop 1)) hq)
      have hqq : upd Hb q (.lst ((iV ((List.range (j + 1)).map fun i => bs u t (n + i))).drop 1)) q = some (.lst ((iV ((List.range (j + 1)).map fun i => bs u t (n + i))).drop 1)) := upd_same
      have hwq : upd Hb q (.lst ((iV ((List.range (j + 1)).map fun i => bs u t (n + i))).drop 1)) w = some (.lst (iV ((List.range (j + 1)).map fun i => bs u t (n + i)))) := by rw [upd_ne (ne_of_none hwb hq)]; exact hwb
      generalize upd Hb q (.lst ((iV ((List.range (j + 1)).map fun i => bs u t (n + i))).drop 1)) = HB at hD rq hqq hwq ⊢
      have rB : RR K HB HB v e l (u ++ t) (bs u t (n + j)) := ⟨KpN.refl v HB, rq.tb, rq.wal, rq.pre⟩
      obtain ⟨dv, hvB⟩ := id rq.wal
      have qv : q ≠ v := fun z => by rw [z, hvB] at hqq; cases hqq
      have wv : w ≠ v := fun z => by rw [z, hvB] at hwq; cases hwq
      have lD : l ≠ D := fun z => by
        obtain ⟨_, ws, gl, _⟩ := rq.pre
        rw [z, hD] at gl
        cases gl
      refine lc_it (walk_list (xs := (iV ((List.range (j + 1)).map fun i => bs u t (n + i))).drop 1)) (fun i H' => RR K HB H' v e l (u ++ t) (bs u t (n + j - i)) ∧ H' D = some (.lst (iV ((List.range i).map fun r => bs u t (n + j - 1 - r))))) ?_ (fun i H' _ h => SqL.of (h.1.kp _ _ hqq qv (fun ps z => by cases z))) ?_ ?_
      · exact ⟨rB.ex (Evl.Ex.new hD), upd_same⟩
      · rintro i x Hc Hd hi ⟨rc, hdc⟩ ⟨rfl, hx⟩
        rw [hcl] at hi
        refine ⟨rfl, ?_⟩
        obtain ⟨dz, hwz⟩ := id rc.wal
        have hle := bs_le_end u t (n + j - i) (by omega)
        refine ⟨_, rfl, v, dz, _, rfl, hwz, waF_no _ _ (by decide +kernel) (by decide +kernel), _, rfl, v, e, l, u ++ t, M u, _, _, rfl, rc.ok hp hz (by omega) ho, by omega, ⟨fun o He _ hoo hwe ke => ?_, fun hno => absurd ?_ hno⟩⟩
        · rw [cnt_last u t (n + j - i) (by omega)] at hoo
          have ei : (((n + j - i : Nat) : Int) - 1).toNat = n + j - (i + 1) := by omega
          rw [ei, occs_get u t (n + j - (i + 1)) (by omega)] at hoo
          have eo := Option.some.inj hoo
          subst eo
          have hde := ke _ _ hdc (fun z => by rw [z, hwz] at hdc; cases hdc)
          refine ⟨_, hde, Evl.sz_lt (by rw [iV_len]; simp; omega), (rc.go hne hwe ke).app hD hde lD, ?_⟩
          rw [upd_same, List.range_succ, List.map_append]
          have ej : n + j - (i + 1) = n + j - 1 - i := by omega
          rw [ej]
          simp [iV]
        · rw [cnt_last u t (n + j - i) (by omega), occs_len]
          omega
      · rintro Hc ⟨rc, hdc⟩
        rw [hcl] at rc hdc
        have enj : n + j - j = n := by omega
        rw [enj] at rc
        have hwc := rc.kp _ _ hwq wv (fun ps z => by cases z)
        have rf : RR K H7 Hc v e l (u ++ t) (bs u t n) := ⟨rq.kp.trans rc.kp, rc.tb, rc.wal, rc.pre⟩
        refine ⟨_, rfl, _, rfl, _, rfl, _, rfl, w, _, rfl, SqL.of hwc, fun q2 hq2 => ⟨q2, _, rfl, SqL.of upd_same, fun q3 hq3 => ?_⟩⟩
        rw [cutV_last] at hq3 ⊢
        have erev : ((iV ((List.range (j + 1)).map fun i => bs u t (n + i))).dropLast).reverse = iV ((List.range j).map fun r => bs u t (n + j - 1 - r)) := by
          have e1 : (iV ((List.range (j + 1)).map fun i => bs u t (n + i))).dropLast = iV ((List.range j).map fun i => bs u t (n + i)) := by
            rw [List.range_succ, List.map_append]; simp [iV]
          rw [e1, iV_rev]
          congr 1
          apply List.ext_getElem
          · simp
          · intro i h1 h2
            have hi : i < j := by simpa using h2
            rw [List.getElem_reverse]
            simp
            congr 1
            omega
        rw [erev]
        have eD1 := Evl.Ex.new (H := Hc) (o := .lst ((iV ((List.range (j + 1)).map fun i => bs u t (n + i))).dropLast)) hq2
        have eD2 := eD1.trans (Evl.Ex.new (o := .lst (iV ((List.range j).map fun r => bs u t (n + j - 1 - r)))) (by rw [← erev] at *; exact hq3))
        refine ⟨.list (((List.range j).map fun r => bs u t (n + j - 1 - r)).map fun n : Nat => PyData.int n), .list (((List.range j).map fun r => bs u t (n + j - 1 - r)).map fun n : Nat => PyData.int n), .lst (SqL.of (eD2 _ _ hdc)) (dp_iv _), .lst (SqL.of upd_same) (dp_iv _), shaped_list (ints_ok _), shaped_list (ints_ok _), _, rfl, ifT (eqv_same (shaped_list (ints_ok _))) ?_⟩
        have rg := rf.ex eD2
        obtain ⟨dz, hwz⟩ := id rg.wal
        refine ⟨_, rfl, v, dz, _, rfl, hwz, waF_no _ _ (by decide +kernel) (by decide +kernel), v, e, _, rfl, rg.wal, fun Hf ef => ?_⟩
        have h0 : atI (iV ((List.range (j + 1)).map fun i => bs u t (n + i))) 0 = some (.int (bs u t n : Nat)) := atI_nat (j := 0) (by rw [iV_get]; simp)
        refine ⟨_, rfl, _, _, _, _, rfl, rfl, SqL.of (ef _ _ (eD2 _ _ hwc)), h0, rfl, ?_⟩
        have ed : decide (V.int (bs u t n : Nat) = V.int (bs u t n : Nat)) = true := decide_eq_true rfl
        show Q (.bl (decide (V.int (bs u t n : Nat) = V.int (bs u t n : Nat)))) Hf
        rw [ed]
        exact last Hf (rg.ex ef)
end
end Mw
end
section
set_option Elab.async false
set_option linter.all false
set_option maxRecDepth 100000
set_option maxHeartbeats 4000000
/-! _law_window_right -/
namespace Mw
open PySem PySem.Spec PyProof.Rows L2 Mir Mr
def sp__law_window_right (K : Frag) : Sp := fun vs H Q _ => ∃ (sd : Addr) (p : Wd), vs = [.ref sd, .str (tx p)] ∧ StAt H sd ∧ LamX.Tabs (tabs K) H ∧ PrOk p ∧ 1 ≤ p.length ∧ p.length ≤ 50 ∧
  ∀ H', StAt H' sd → LamX.Tabs (tabs K) H' → KpN sd H H' → Q (.bl true) H'
/-- a presser that was made before, and a walker made after a draw -/
theorem walker_made {K : Frag} {H H5 H6 H7 : Hp} {sd e l v : Addr} {p : Wd} {n : Nat} (hs : StAt H sd) (he : H e = none) (hl : H l = none) (k05 : Kp sd H H5) (hs5 : StAt H5 sd) (ht5 : LamX.Tabs (tabs K) H5) (hp5 : PreAt K H5 e l p 0) (e6 : Evl.Ex H5 H6)
    (hv : H6 v = none) (hw7 : WalAt K H7 v e n) (hp7 : PreAt K H7 e l p 1) (k7 : Kp l H6 H7) : RR K H7 H7 v e l p n ∧ StAt H7 sd ∧ H v = none ∧ KpN sd H H7 := by
  have hs6 := hs5.ex e6
  have ht6 := ht5.ext e6
  have hp6 := hp5.ex e6
  obtain ⟨kvs, hk⟩ := hs.dk
  have sdl : l ≠ sd := fun z => by rw [← z, hl] at hk; cases hk
  have hvH : H v = none := by
    cases z : H v with
    | none => rfl
    | some o =>
      by_cases zz : v = sd
      · obtain ⟨kvs, hk⟩ := hs6.dk
        rw [zz, hk] at hv
        cases hv
      · have := e6 _ _ (k05 _ _ z zz)
        rw [hv] at this
        cases this
  obtain ⟨_, ws, gl, gl2⟩ := hp6
  refine ⟨⟨KpN.refl v H7, tabs_lst ht6 k7 gl, hw7, hp7⟩, ?_, hvH, fun b o hb n1 _ => k7 _ _ (e6 _ _ (k05 b o hb n1)) (ne_of_none hb hl)⟩
  obtain ⟨lf, pc, tn, a, cs, g1, g2, g3⟩ := hs6
  exact ⟨lf, pc, tn, a, cs, k7 _ _ g1 (Ne.symm sdl), k7 _ _ g2 (fun z => by
    rw [z, gl] at g2
    injection g2 with g2
    injection g2 with g2
    rw [g2, List.length_map] at gl2
    omega), g3⟩
theorem occ_win (p : Wd) (a m : Nat) (h : a + m ≤ L p) : Occ (((M p).drop a).take m) (M p) a := by
  have hl : (M p).length = L p := rfl
  refine (occ_iff _ _ _).mpr ⟨by omega, ?_⟩
  rw [List.length_take, List.length_drop, Nat.min_eq_left (by omega)]
theorem occ_read {p z : Wd} {o : Nat} (h : Occ z (M p) o) : ((M p).drop o).take z.length = z ∧ o + z.length ≤ L p := ⟨((occ_iff _ _ _).mp h).2, h.le⟩
section
variable {P : Program} {w : World} {K : Frag} {mg : Str → Option Value} {base : Heap}
theorem sc__law_window_right : FnScope ["_law_state_here", "_law_row_here", "_law_size_here", "_law_presser", "_law_start", "_law_piece", "_law_spot", "_law_often", "_law_walker", "_law_k", "_law_number", "_law_due"] ["_law_state_here", "_law_row_here"] (defScope (top 74)) := ⟨rfl, rfl, rfl, by decide +kernel, rfl, by decide +kernel, by decide +kernel⟩
def H__law_window_right (P : Program) (w : World) (K : PySem.W.Frag) (mg : Str → Option Value) (base : Heap) : Prop := Has P w K mg base (CX0) 12 "_law_window_right" ["_law_state_here", "_law_row_here"] (sp__law_window_right K)
theorem ok__law_window_right {fd : FuncData} (F : FunD K "_law_window_right" "_law_window_right" (defArgs (top 74)) (defBody (top 74)) (defScope (top 74)) [] [] (He.fAd K ("_law_window_right", none)) fd) (T : Tp K mg) (G : Tg K mg) (hGn : GoneDef K mg) (D3 : Dist K) (hne : cWal K ≠ cPre K) (TB : LamX.TabB base mg (He.cT K ("_law_window_right", none)).1 (He.cT K ("_law_window_right", none)).2) (h_Presser___init__ : H_Presser___init__ P w K mg base) (h__law_size : H__law_size P w K mg base) (h__law_great : H__law_great P w K mg base) (h_window : H_window P w K mg base) (h__law_draw : H__law_draw P w K mg base) (h_how_often : H_how_often P w K mg base) (h_Presser_walker : H_Presser_walker P w K mg base) (h_stand_ahead : H_stand_ahead P w K mg base) (h_Walker_stands : H_Walker_stands P w K mg base) (h_place_at : H_place_at P w K mg base) (h_Walker_reads : H_Walker_reads P w K mg base) (h_Walker_next_of : H_Walker_next_of P w K mg base) (h_Walker_last_of : H_Walker_last_of P w K mg base) : FnOk P w K mg base (CX0) 12 (He.fAd K ("_law_window_right", none)) fd ["_law_state_here", "_law_row_here"] (sp__law_window_right K) := by
  refine okT F sc__law_window_right (fun vs H Q E h => by (obtain ⟨_, _, rfl, _⟩ := h; rfl)) (fun cdv hcode A outer s H vs Q E hr h => ?_)
  obtain ⟨sd, p, rfl, hs, ht, hp, hp1, hp50, k⟩ := h
  refine ⟨_, PSs.nox (pss_cons (ps_par (i := 2) (j := 3) (by rfl) sc__law_window_right.nd rfl rfl (by decide) rfl rfl (pa_cons (pcall h__law_size hr rfl (pa_cons (pv 1) pa_nil)) (pa_cons (pmake h_Presser___init__ hr rfl (pa_cons (pv 1) pa_nil)) pa_nil)) (by rfl)) (pss_cons (ps_set (i := 4) sc__law_window_right.nd rfl (Or.inl rfl) (pcall h__law_great hr rfl (pa_cons (pv 0) (pa_cons (pv 2) pa_nil)))) (pss_cons (ps_set (i := 5) sc__law_window_right.nd rfl (Or.inr rfl) (pcall h_window hr rfl (pa_cons (pv 1) (pa_cons (pv 4) (pa_cons (pe_callB (call_min2 rfl) (by rfl) T.min (by decide +kernel) (pa_cons (pe_op op_sub (pv 2) (pv 4)) (pa_cons (pe_op op_add pe_int (pcall h__law_draw hr rfl (pa_cons (pv 0) (pa_cons pe_int pa_nil)))) pa_nil))) pa_nil))))) (pss_cons (ps_par (i := 6) (j := 7) (by rfl) sc__law_window_right.nd rfl rfl (by decide) rfl rfl (pa_cons (pcall h__law_great hr rfl (pa_cons (pv 0) (pa_cons (pe_op op_add (pv 2) pe_int) pa_nil))) (pa_cons (pcall h_how_often hr rfl (pa_cons (pv 1) (pa_cons (pv 5) pa_nil))) pa_nil)) (by rfl)) (pss_cons (ps_set (i := 8) sc__law_window_right.nd rfl (Or.inr rfl) (pmeth h_Presser_walker (pv 3) hr (pa_cons (pv 6) pa_nil))) (pss_cons (ps_for PassesOwn.never rfl (pi_range1 rfl T.range (pa_cons pe_int pa_nil)) (pg_name (i := 9) sc__law_window_right.nd rfl (Or.inl rfl)) (pss_cons (ps_set (i := 10) sc__law_window_right.nd rfl (Or.inl rfl) (pcall h_stand_ahead hr rfl (pa_cons (pv 1) (pa_cons (pv 5) (pa_cons (pe_op op_add (pmeth0 h_Walker_stands (pv 8) hr) pe_int) pa_nil))))) (pss_cons (ps_set (i := 11) sc__law_window_right.nd rfl (Or.inl rfl) (pe_ifExp (pt_cmpR op_lt (pv 10) (pv 7) (nomark _)) (pcall h_place_at hr rfl (pa_cons (pv 1) (pa_cons (pv 5) (pa_cons (pv 10) pa_nil)))) pe_non)) (pss_one (ps_if (PW.pt (pw_or (pt_cmpR op_ne (pgone rfl hGn G TB hcode (in_w K) (hu_w D3) hr (LamX.lamS_by (sc := defScope (top 74)) (by decide +kernel)) rfl (fun _ _ _ _ _ => rfl) (fun A outer s H E f c hr => (pmethXK (K := K) rfl h_Walker_next_of (passes_call (W := fun cls d _ H => E cls d H) (takes_of rfl rfl rfl rfl) (fun _ _ _ _ q => q)) (pv 8) hr (pa_cons (pv 5) pa_nil)))) (pv 11) (nomark _)) (pw_or1 (PW.pt (pw_and (pt_cmpR op_notN (pv 11) pe_non (nomark _)) (pw_and1 (pt_cmpR op_ne (pmeth h_Walker_reads (pv 8) hr (pa_cons (pe_callB call_len_str (by rfl) T.len PySem.boot_len (pa_cons (pv 5) pa_nil)) pa_nil)) (pv 5) (nomark _)))))))) (pss_one (ps_ret pe_bl)) pss_nil))))) (pss_cons (ps_for PassesOwn.never rfl (pi_range1 rfl T.range (pa_cons pe_int pa_nil)) (pg_name (i := 9) sc__law_window_right.nd rfl (Or.inl rfl)) (pss_cons (ps_set (i := 10) sc__law_window_right.nd rfl (Or.inl rfl) (pcall h_stand_ahead hr rfl (pa_cons (pv 1) (pa_cons (pv 5) (pa_cons (pmeth0 h_Walker_stands (pv 8) hr) pa_nil))))) (pss_cons (ps_set (i := 11) sc__law_window_right.nd rfl (Or.inl rfl) (pe_ifExp (pt_cmpR op_gt (pv 10) pe_int (nomark _)) (pcall h_place_at hr rfl (pa_cons (pv 1) (pa_cons (pv 5) (pa_cons (pe_op op_sub (pv 10) pe_int) pa_nil)))) pe_non)) (pss_one (ps_if (PW.pt (pw_or (pt_cmpR op_ne (pgone rfl hGn G TB hcode (in_w K) (hu_w D3) hr (LamX.lamS_by (sc := defScope (top 74)) (by decide +kernel)) rfl (fun _ _ _ _ _ => rfl) (fun A outer s H E f c hr => (pmethXK (K := K) rfl h_Walker_last_of (passes_call (W := fun cls d _ H => E cls d H) (takes_of rfl rfl rfl rfl) (fun _ _ _ _ q => q)) (pv 8) hr (pa_cons (pv 5) pa_nil)))) (pv 11) (nomark _)) (pw_or1 (PW.pt (pw_and (pt_cmpR op_notN (pv 11) pe_non (nomark _)) (pw_and1 (pt_cmpR op_ne (pmeth h_Walker_reads (pv 8) hr (pa_cons (pe_callB call_len_str (by rfl) T.len PySem.boot_len (pa_cons (pv 5) pa_nil)) pa_nil)) (pv 5) (nomark _)))))))) (pss_one (ps_ret pe_bl)) pss_nil))))) (pss_one (ps_ret pe_bl))))))))), ?_⟩
  have hL1 : 1 ≤ L p := Nat.le_trans hp1 (L_ge p)
  have hbig : L p < 2 ^ 61 := by
    have := L_lt hp50
    have : (2 : Nat) ^ 50 ≤ 2 ^ 61 := Nat.pow_le_pow_right (by decide) (by decide)
    omega
  refine ⟨_, rfl, _, rfl, hp, fun H1 e1 => ⟨_, rfl, fun e dx he hdx hne0 => ⟨e, dx, _, rfl, upd_same, hp, fun l H2 hl hpre k1 => ⟨rfl, _, _, rfl, ?_⟩⟩⟩⟩
  have x0 : Evl.Ex H1 (upd (upd H1 dx (.own e)) e (.ins (cPre K) dx [])) := ((Evl.Ex.refl H1).mut hdx).mut he
  have hlH : H l = none := Evl.fresh_back (e1.trans x0) hl
  have heH : H e = none := Evl.fresh_back e1 he
  have e02 : Evl.Ex H H2 := fun b o hb => k1 b o (x0 b o (e1 b o hb)) (ne_of_none (e1 b o hb) he)
  have hs2 := hs.ex e02
  have ht2 := ht.ext e02
  obtain ⟨kvs0, hk0⟩ := id hs.dk
  have sde : e ≠ sd := fun z => by rw [← z, heH] at hk0; cases hk0
  have sdl : l ≠ sd := fun z => by rw [← z, hlH] at hk0; cases hk0
  clear k1 x0
  -- where the piece begins
  refine ⟨_, rfl, _, rfl, sd, _, rfl, hs2, by omega, fun a0 H3 ha0 ha1 hs3 k3 => ?_⟩
  obtain ⟨a, rfl⟩ : ∃ a : Nat, a0 = (a : Nat) := ⟨a0.toNat, by omega⟩
  have ht3 : LamX.Tabs (tabs K) H3 := by
    obtain ⟨kvs, hk⟩ := hs2.dk
    exact tabs_dk ht2 k3 hk
  refine ⟨_, rfl, _, rfl, _, rfl, _, rfl, _, _, rfl, rfl, _, rfl, sd, _, rfl, hs3, by decide, by decide, fun d0 H4 hd0 hd1 hs4 k4 => ⟨_, _, rfl, rfl, _, _, rfl, ?_⟩⟩
  have ht4 : LamX.Tabs (tabs K) H4 := by
    obtain ⟨kvs, hk⟩ := hs3.dk
    exact tabs_dk ht3 k4 hk
  obtain ⟨m, em, hm1, hm2⟩ : ∃ m : Nat, (if (2 : Int) + d0 < (L p : Nat) - (a : Nat) then (2 : Int) + d0 else (L p : Nat) - (a : Nat)) = (m : Nat) ∧ a + m ≤ L p ∧ m ≤ 30 := by
    refine ⟨(if (2 : Int) + d0 < (L p : Nat) - (a : Nat) then (2 : Int) + d0 else (L p : Nat) - (a : Nat)).toNat, ?_, ?_, ?_⟩ <;> split <;> omega
  refine ⟨p, a, m, by rw [← em]; rfl, hp, by omega, hm1, hbig, fun H5 e5 => ?_⟩
  have hocc : ∃ j, Occ (((M p).drop a).take m) (M p) j := ⟨a, occ_win p a m hm1⟩
  have hzg : Good (((M p).drop a).take m) := (hp.good.M.drop a).take m
  have hzl : (((M p).drop a).take m).length ≤ 30 := by rw [List.length_take]; omega
  generalize ((M p).drop a).take m = z at hocc hzg hzl ⊢
  have k05 : Kp sd H H5 := (((Kp.of e02).trans k3).trans k4).ex e5
  have hs5 := hs4.ex e5
  have ht5 := ht4.ext e5
  have hpre5 : PreAt K H5 e l p 0 := ((hpre.kpn (KpN.kp k3) sde sdl).kpn (KpN.kp k4) sde sdl).ex e5
  -- the number, how often
  refine ⟨_, rfl, _, rfl, _, _, rfl, rfl, sd, _, rfl, hs5, by omega, fun n0 H6 hn0 hn1 hs6 k6 => ⟨_, rfl, _, rfl, p, z, rfl, hp, hzg, by omega, hocc, fun H7 e7 => ⟨_, _, rfl, ?_⟩⟩⟩
  obtain ⟨n, rfl⟩ : ∃ n : Nat, n0 = (n : Nat) := ⟨n0.toNat, by omega⟩
  have hn : n ≤ L p := by omega
  have ht6 : LamX.Tabs (tabs K) H6 := by
    obtain ⟨kvs, hk⟩ := hs5.dk
    exact tabs_dk ht5 k6 hk
  have hpre6 := hpre5.kpn (KpN.kp k6) sde sdl
  obtain ⟨⟨dxe, r, hpe⟩, hpl⟩ := id hpre6
  refine ⟨_, rfl, e, dxe, _, rfl, e7 _ _ hpe, prF_no _ _ _ (by decide +kernel) (by decide +kernel) (by decide +kernel), _, rfl, e, l, p, n, rfl, hpre6.ex e7, hp, hn, fun v H8 hv hw8 hpre8 k8 => ?_⟩
  obtain ⟨rr8, hs8, hvH, k08⟩ := walker_made hs heH hlH (k05.trans k6) hs6 ht6 hpre6 e7 hv hw8 hpre8 k8
  have w0 : ∃ n, WalAt K H8 v e n := ⟨_, hw8⟩
  have last : ∀ H' pos, RR K H8 H' v e l p pos → Q (.bl true) H' := fun H' pos h' => k H' (hs8.rr w0 h') h'.tb (k08.new hvH h'.kp)
  have hso := occs_sorted p z
  have hol : ∀ o, o ∈ occs p z → ((M p).drop o).take z.length = z ∧ o + z.length ≤ L p := fun o h => occ_read ((mem_occs p z o).mp h)
  -- three times on, three times back
  refine ⟨3, rfl, by decide, by decide, for_it walk_range (fun i σ H' => ∃ (pos : Nat) (x9 x10 x11 : Option V), σ = [some (.ref sd), some (.str (tx p)), some (.int (L p : Nat)), some (.ref e), some (.int (a : Nat)), some (.str (tx z)), some (.int (n : Nat)), some (.int ((occs p z).length : Nat)), some (.ref v), x9, x10, x11] ∧ pos ≤ L p ∧ RR K H8 H' v e l p pos) ?_ (fun _ _ _ _ _ => trivial) ?_ ?_⟩
  · exact ⟨n, none, none, none, rfl, hn, rr8⟩
  · rintro i x σ Ha Hb hi ⟨pos, x9, x10, x11, rfl, hpos, ra⟩ ⟨rfl, hv'⟩
    subst hv'
    obtain ⟨dz, hwz⟩ := id ra.wal
    refine ⟨_, rfl, _, rfl, _, rfl, v, dz, _, rfl, hwz, waF_no _ _ (by decide +kernel) (by decide +kernel), v, e, _, rfl, ra.wal, fun Hc ec => ⟨_, _, rfl, rfl, p, z, pos + 1, rfl, hp, hzg, by omega, hocc, by omega, fun Hd ed => ?_⟩⟩
    have rd := (ra.ex ec).ex ed
    refine ⟨_, rfl, _, rfl, _, _, rfl, rfl, _, rfl, ite2 (fun hin => ?_) (fun hin => ?_)⟩
    · have hin := of_decide_eq_true hin
      have hin' : cnt (occs p z) (pos + 1) < (occs p z).length := by omega
      have hget : (occs p z)[cnt (occs p z) (pos + 1)]? = some (occs p z)[cnt (occs p z) (pos + 1)] := List.getElem?_eq_getElem hin'
      obtain ⟨rdz, rdl⟩ := hol _ (List.getElem_mem hin')
      generalize (occs p z)[cnt (occs p z) (pos + 1)] = o at hget rdz rdl
      refine ⟨_, rfl, _, rfl, _, rfl, p, z, _, o, rfl, hp, hzg, by omega, hget, fun He ee => ?_⟩
      have re := rd.ex ee
      refine ⟨re.tb, fun H1' eN T1 => ?_⟩
      intro H2' Q' e2' hQ
      have rf := (re.extN eN T1).ex e2'
      obtain ⟨dy, hwy⟩ := id rf.wal
      refine ⟨_, rfl, v, dy, _, rfl, hwy, waF_no _ _ (by decide +kernel) (by decide +kernel), _, rfl, v, e, l, p, z, _, _, rfl, rf.ok hp hzg (by omega) hocc, hpos, ⟨fun o' Hg _ hoo hwg kg => hQ _ _ ?_, fun hno => absurd ?_ hno⟩⟩
      · have eo : o' = o := by
          have : (occs p z)[cnt (occs p z) (pos + 1)]? = some o' := hoo
          rw [hget] at this
          exact (Option.some.inj this).symm
        subst eo
        have rg := rf.go hne hwg kg
        refine ⟨_, rfl, rfl, _, rfl, ifF (by simp) ?_⟩
        refine ⟨_, rfl, rfl, _, rfl, iteT ?_⟩
        obtain ⟨du, hwu⟩ := id rg.wal
        refine ⟨_, rfl, v, du, _, rfl, hwu, waF_no _ _ (by decide +kernel) (by decide +kernel), _, rfl, _, rfl, Evl.sz_of (by rw [tx_len]; omega), v, e, l, p, o', 1, z.length, by rw [tx_len]; rfl, rg.wal, rg.pre, hp, by omega, rdl, hbig, fun Hh eh => ?_⟩
        rw [rdz]
        exact ⟨_, rfl, rfl, _, rfl, ifF (by simp) ⟨o', _, _, _, rfl, by omega, rg.ex eh⟩⟩
      · exact ⟨by omega, by omega⟩
    · have hin : ¬ ((cnt (occs p z) (pos + 1) : Nat) : Int) < ((occs p z).length : Nat) := fun q => hin (decide_eq_true q)
      refine ⟨rd.tb, fun H1' eN T1 => ?_⟩
      intro H2' Q' e2' hQ
      have rf := (rd.extN eN T1).ex e2'
      obtain ⟨dy, hwy⟩ := id rf.wal
      refine ⟨_, rfl, v, dy, _, rfl, hwy, waF_no _ _ (by decide +kernel) (by decide +kernel), _, rfl, v, e, l, p, z, _, _, rfl, rf.ok hp hzg (by omega) hocc, hpos, ⟨fun o' Hg _ hoo hwg kg => ?_, fun hno H' e' => ⟨true, G.eG, fun _ => ?_, fun z => by cases z⟩⟩⟩
      · have : (occs p z)[cnt (occs p z) (pos + 1)]? = some o' := hoo
        have := (List.getElem?_eq_some_iff.mp this).1
        omega
      · refine ⟨_, rfl, rfl, _, rfl, ifF (by simp) ?_⟩
        exact ⟨_, rfl, rfl, _, rfl, iteF (iteF ⟨pos, _, _, _, rfl, hpos, rf.ex e'⟩)⟩
  · rintro σ Hz ⟨pos0, x9, x10, x11, rfl, hpos0, rz⟩
    refine ⟨3, rfl, by decide, by decide, for_it walk_range (fun i σ H' => ∃ (pos : Nat) (x9 x10 x11 : Option V), σ = [some (.ref sd), some (.str (tx p)), some (.int (L p : Nat)), some (.ref e), some (.int (a : Nat)), some (.str (tx z)), some (.int (n : Nat)), some (.int ((occs p z).length : Nat)), some (.ref v), x9, x10, x11] ∧ pos ≤ L p ∧ RR K H8 H' v e l p pos) ?_ (fun _ _ _ _ _ => trivial) ?_ ?_⟩
    · exact ⟨pos0, _, _, _, rfl, hpos0, rz⟩
    · rintro i x σ Ha Hb hi ⟨pos, x9, x10, x11, rfl, hpos, ra⟩ ⟨rfl, hv'⟩
      subst hv'
      obtain ⟨dz, hwz⟩ := id ra.wal
      refine ⟨_, rfl, _, rfl, _, rfl, v, dz, _, rfl, hwz, waF_no _ _ (by decide +kernel) (by decide +kernel), v, e, _, rfl, ra.wal, fun Hc ec => ⟨p, z, pos, rfl, hp, hzg, by omega, hocc, by omega, fun Hd ed => ?_⟩⟩
      have rd := (ra.ex ec).ex ed
      have hcl := cnt_le (occs p z) pos
      refine ⟨_, rfl, _, _, rfl, rfl, _, rfl, ite2 (fun hin => ?_) (fun hin => ?_)⟩
      · have hin := of_decide_eq_true hin
        have hin' : cnt (occs p z) pos - 1 < (occs p z).length := by omega
        have ec1 : ((cnt (occs p z) pos : Nat) : Int) - 1 = ((cnt (occs p z) pos - 1 : Nat) : Int) := by omega
        have hget : (occs p z)[cnt (occs p z) pos - 1]? = some (occs p z)[cnt (occs p z) pos - 1] := List.getElem?_eq_getElem hin'
        obtain ⟨rdz, rdl⟩ := hol _ (List.getElem_mem hin')
        generalize (occs p z)[cnt (occs p z) pos - 1] = o at hget rdz rdl
        refine ⟨_, rfl, _, rfl, _, rfl, _, _, rfl, rfl, p, z, cnt (occs p z) pos - 1, o, by rw [← ec1]; rfl, hp, hzg, by omega, hget, fun He ee => ?_⟩
        have re := rd.ex ee
        refine ⟨re.tb, fun H1' eN T1 => ?_⟩
        intro H2' Q' e2' hQ
        have rf := (re.extN eN T1).ex e2'
        obtain ⟨dy, hwy⟩ := id rf.wal
        refine ⟨_, rfl, v, dy, _, rfl, hwy, waF_no _ _ (by decide +kernel) (by decide +kernel), _, rfl, v, e, l, p, z, _, _, rfl, rf.ok hp hzg (by omega) hocc, hpos, ⟨fun o' Hg _ hoo hwg kg => hQ _ _ ?_, fun hno => absurd ?_ hno⟩⟩
        · have eo : o' = o := by
            rw [ec1, Int.toNat_natCast, hget] at hoo
            exact (Option.some.inj hoo).symm
          subst eo
          have rg := rf.go hne hwg kg
          refine ⟨_, rfl, rfl, _, rfl, ifF (by simp) ?_⟩
          refine ⟨_, rfl, rfl, _, rfl, iteT ?_⟩
          obtain ⟨du, hwu⟩ := id rg.wal
          refine ⟨_, rfl, v, du, _, rfl, hwu, waF_no _ _ (by decide +kernel) (by decide +kernel), _, rfl, _, rfl, Evl.sz_of (by rw [tx_len]; omega), v, e, l, p, o', 1, z.length, by rw [tx_len]; rfl, rg.wal, rg.pre, hp, by omega, rdl, hbig, fun Hh eh => ?_⟩
          rw [rdz]
          exact ⟨_, rfl, rfl, _, rfl, ifF (by simp) ⟨o', _, _, _, rfl, by omega, rg.ex eh⟩⟩
        · exact ⟨by omega, by omega⟩
      · have hin : ¬ (0 : Int) < (cnt (occs p z) pos : Nat) := fun q => hin (decide_eq_true q)
        refine ⟨rd.tb, fun H1' eN T1 => ?_⟩
        intro H2' Q' e2' hQ
        have rf := (rd.extN eN T1).ex e2'
        obtain ⟨dy, hwy⟩ := id rf.wal
        refine ⟨_, rfl, v, dy, _, rfl, hwy, waF_no _ _ (by decide +kernel) (by decide +kernel), _, rfl, v, e, l, p, z, _, _, rfl, rf.ok hp hzg (by omega) hocc, hpos, ⟨fun o' Hg h0 hoo hwg kg => ?_, fun hno H' e' => ⟨true, G.eG, fun _ => ?_, fun z => by cases z⟩⟩⟩
        · omega
        · refine ⟨_, rfl, rfl, _, rfl, ifF (by simp) ?_⟩
          exact ⟨_, rfl, rfl, _, rfl, iteF (iteF ⟨pos, _, _, _, rfl, hpos, rf.ex e'⟩)⟩
    · rintro σ Hy ⟨pos, x9, x10, x11, rfl, hpos, ry⟩
      exact last Hy pos ry
end
end Mw
end
section
set_option Elab.async false
set_option linter.all false
set_option maxRecDepth 100000
set_option maxHeartbeats 4000000
/-! _law_walked_right -/
namespace Mw
open PySem PySem.Spec PyProof.Rows L2 Mir Mr
def sp__law_walked_right (K : Frag) : Sp := fun vs H Q _ => ∃ (sd : Addr) (p : Wd), vs = [.ref sd, .str (tx p)] ∧ StAt H sd ∧ LamX.Tabs (tabs K) H ∧ PrOk p ∧ p.length ≤ 6 ∧
  ∀ H', StAt H' sd → LamX.Tabs (tabs K) H' → KpN sd H H' → Q (.bl true) H'
/-! ### what was found -/
def TupKp (H H' : Hp) : Prop := ∀ b xs, H b = some (.tup xs) → H' b = some (.tup xs)
theorem TupKp.ex {H H' : Hp} (e : Evl.Ex H H') : TupKp H H' := fun b xs h => e _ _ h
theorem TupKp.extN {H H' : Hp} (e : LamX.ExtN H H') : TupKp H H' := fun b xs h => e _ _ h (fun ps z => by cases z)
theorem TupKp.kp {H H' : Hp} {v : Addr} (e : Kp v H H') (hv : ∀ xs, H v ≠ some (.tup xs)) : TupKp H H' := fun b xs h => e _ _ h (fun z => hv xs (by rw [← z]; exact h))
inductive Fd (H : Hp) : List V → List PyData → Prop where
  | nil : Fd H [] []
  | int {xs : List V} {ds : List PyData} (n : Nat) (h : Fd H xs ds) : Fd H (.int (n : Nat) :: xs) (.int (n : Nat) :: ds)
  | tup {xs : List V} {ds : List PyData} {t : Addr} {q : Nat} (ht : H t = some (.tup [.str "stays", .int (q : Nat)])) (h : Fd H xs ds) : Fd H (.ref t :: xs) (.tuple [.str "stays", .int (q : Nat)] :: ds)
theorem Fd.keep {H H' : Hp} {xs : List V} {ds : List PyData} (k : TupKp H H') (h : Fd H xs ds) : Fd H' xs ds := by
  induction h with
  | nil => exact .nil
  | int n _ ih => exact .int n ih
  | tup ht _ ih => exact .tup (k _ _ ht) ih
theorem Fd.app {H : Hp} {xs ys : List V} {ds es : List PyData} (h : Fd H xs ds) (g : Fd H ys es) : Fd H (xs ++ ys) (ds ++ es) := by
  induction h with
  | nil => exact g
  | int n _ ih => exact .int n ih
  | tup ht _ ih => exact .tup ht ih
theorem Fd.len {H : Hp} {xs : List V} {ds : List PyData} (h : Fd H xs ds) : xs.length = ds.length := by
  induction h with
  | nil => rfl
  | int n _ ih => simp [ih]
  | tup ht _ ih => simp [ih]
theorem Fd.dp {K : Frag} {H : Hp} {xs : List V} {ds : List PyData} (h : Fd H xs ds) : DpAll K H xs ds := by
  induction h with
  | nil => exact .nil
  | int n _ ih => exact .cons (.int _) ih
  | tup ht _ ih => exact .cons (.tup (SqT.of ht) (.cons (.str _) (.cons (.int _) .nil))) ih
theorem Fd.ok {H : Hp} {xs : List V} {ds : List PyData} (h : Fd H xs ds) : ∀ d ∈ ds, d.canLay0 = true ∧ d.depth ≤ 60 := by
  induction h with
  | nil => intro d hd; cases hd
  | int n _ ih =>
    intro d hd
    rcases List.mem_cons.mp hd with rfl | hd
    · exact ⟨rfl, Nat.zero_le _⟩
    · exact ih d hd
  | tup ht _ ih =>
    intro d hd
    rcases List.mem_cons.mp hd with rfl | hd
    · exact ⟨by show (PyData.canLay0 (.str "stays") && (true && true)) = true; decide +kernel, by show max 0 (max 0 0) + 1 ≤ 60; decide⟩
    · exact ih d hd
def iD (g : List Nat) : List PyData := g.map fun n : Nat => PyData.int (n : Nat)
theorem Fd.ints {H : Hp} : ∀ g : List Nat, Fd H (iV g) (iD g)
  | [] => .nil
  | n :: g => .int n (Fd.ints g)
def stayD (q : Nat) : PyData := .tuple [.str "stays", .int (q : Nat)]
/-! ### the places in turn -/
def posOf (seq : List Nat) (s j : Nat) : Nat := if j = 0 then s else seq.getD (j - 1) 0
theorem posOf_zero (seq : List Nat) (s : Nat) : posOf seq s 0 = s := rfl
theorem posOf_succ (seq : List Nat) (s j : Nat) (h : j < seq.length) : posOf seq s (j + 1) = seq[j] := by
  unfold posOf
  rw [if_neg (by omega)]
  simp [List.getD, h]
def seqOn (os : List Nat) (s : Nat) : List Nat := os.drop (cnt os (s + 1))
def seqBack (os : List Nat) (s : Nat) : List Nat := (os.take (cnt os s)).reverse
theorem get_on {os : List Nat} (s j : Nat) : os[cnt os (s + 1) + j]? = (seqOn os s)[j]? := by unfold seqOn; rw [List.getElem?_drop]
theorem cnt_on {os : List Nat} (hs : os.Pairwise (· < ·)) (s j : Nat) (h : j ≤ (seqOn os s).length) : cnt os (posOf (seqOn os s) s j + 1) = cnt os (s + 1) + j := by
  cases j with
  | zero => rfl
  | succ j =>
    have hj : j < (seqOn os s).length := h
    have hj2 : cnt os (s + 1) + j < os.length := by unfold seqOn at hj; rw [List.length_drop] at hj; omega
    rw [posOf_succ _ _ _ hj]
    have e : (seqOn os s)[j] = os[cnt os (s + 1) + j] := by
      have := get_on (os := os) s j
      rw [List.getElem?_eq_getElem hj, List.getElem?_eq_getElem hj2] at this
      exact (Option.some.inj this).symm
    rw [e, cnt_at1 hs hj2]
    omega
theorem len_on {os : List Nat} (s : Nat) : (seqOn os s).length = os.length - cnt os (s + 1) := by unfold seqOn; rw [List.length_drop]
theorem len_back {os : List Nat} (s : Nat) : (seqBack os s).length = cnt os s := by
  unfold seqBack
  rw [List.length_reverse, List.length_take, Nat.min_eq_left (cnt_le os s)]
theorem get_back {os : List Nat} (s j : Nat) (h : j < cnt os s) : (seqBack os s)[j]? = os[cnt os s - (j + 1)]? := by
  have hle := cnt_le os s
  unfold seqBack
  rw [List.getElem?_reverse (by rw [List.length_take]; omega), List.length_take, Nat.min_eq_left hle, List.getElem?_take_of_lt (by omega)]
  congr 1
  omega
theorem cnt_back {os : List Nat} (hs : os.Pairwise (· < ·)) (s j : Nat) (h : j ≤ (seqBack os s).length) : cnt os (posOf (seqBack os s) s j) = cnt os s - j := by
  cases j with
  | zero => rfl
  | succ j =>
    have hj : j < (seqBack os s).length := h
    have hj1 : j < cnt os s := by rw [len_back] at hj; exact hj
    have hle := cnt_le os s
    have hj2 : cnt os s - (j + 1) < os.length := by omega
    rw [posOf_succ _ _ _ hj]
    have e : (seqBack os s)[j] = os[cnt os s - (j + 1)] := by
      have := get_back (os := os) s j hj1
      rw [List.getElem?_eq_getElem hj, List.getElem?_eq_getElem hj2] at this
      exact Option.some.inj this
    rw [e, cnt_at hs hj2]
def seqW (os : List Nat) (s i : Nat) : List Nat := if i = 0 then seqOn os s else seqBack os s
theorem seqW0 (os : List Nat) (s : Nat) : seqW os s 0 = seqOn os s := rfl
theorem seqW1 (os : List Nat) (s : Nat) : seqW os s 1 = seqBack os s := rfl
theorem seqW_mem {os : List Nat} {s i o : Nat} (h : o ∈ seqW os s i) : o ∈ os := by
  unfold seqW at h
  split at h
  · exact List.mem_of_mem_drop h
  · unfold seqBack at h
    exact List.mem_of_mem_take (List.mem_reverse.mp h)
theorem posOf_mem {os : List Nat} {s i j : Nat} (h : j ≤ (seqW os s i).length) : posOf (seqW os s i) s j = s ∨ posOf (seqW os s i) s j ∈ os := by
  cases j with
  | zero => exact .inl rfl
  | succ j =>
    right
    rw [posOf_succ _ _ _ h]
    exact seqW_mem (List.getElem_mem h)
/-- the lambda's reading at the j-th place of its way -/
theorem lam_walk {K : Frag} {H0 Hc : Hp} {v e l : Addr} {p z : Wd} {s i j : Nat} {σ : L2.St} {Q' : VK} {E : XK} (hne : cWal K ≠ cPre K) (hp : PrOk p) (hz : Good z) (hzl : z.length ≤ 200) (ho : ∃ j, Occ z (M p) j) (hs : s ≤ L p) (hi : i < 2)
    (hj : j ≤ (seqW (occs p z) s i).length) (r : RR K H0 Hc v e l p (posOf (seqW (occs p z) s i) s j)) (s5 : σ[5]? = some (some (.str (tx z)))) (s8 : σ[8]? = some (some (.ref v))) (s10 : σ[10]? = some (some (.int (i : Nat))))
    (go : ∀ (h : j < (seqW (occs p z) s i).length) Hd, RR K H0 Hd v e l p (posOf (seqW (occs p z) s i) s (j + 1)) → Kp v Hc Hd → Q' (.int ((posOf (seqW (occs p z) s i) s (j + 1) : Nat) : Int)) Hd)
    (no : j = (seqW (occs p z) s i).length → ∀ H', Evl.Ex Hc H' → E (.ref (cGon K)) none H') :
    tIf (tTest (tOp rEq (tVar 10) (tC (.int 0)))) (tMeth (He.ga K "Walker") "next_of" (sp_Walker_next_of K) [] E (tVar 8) (tCons (tVar 5) tNil)) (tMeth (He.ga K "Walker") "last_of" (sp_Walker_last_of K) [] E (tVar 8) (tCons (tVar 5) tNil)) σ Hc Q' := by
  have hso := occs_sorted p z
  have hpos : posOf (seqW (occs p z) s i) s j ≤ L p := by
    rcases posOf_mem hj with h | h
    · rw [h]; exact hs
    · have := ((mem_occs p z _).mp h).le
      have : (M p).length = L p := rfl
      omega
  obtain ⟨dy, hwy⟩ := id r.wal
  have hcl := cnt_le (occs p z) (s + 1)
  have hcl2 := cnt_le (occs p z) s
  refine ⟨_, s10, rfl, _, rfl, ?_⟩
  rcases (show i = 0 ∨ i = 1 by omega) with rfl | rfl
  · refine ifT (by simp) ?_
    rw [seqW0] at hj r go no hpos hwy
    refine ⟨_, s8, v, dy, _, rfl, hwy, waF_no _ _ (by decide +kernel) (by decide +kernel), _, s5, v, e, l, p, z, _, _, rfl, r.ok hp hz hzl ho, hpos, ⟨fun o' Hg _ hoo hwg kg => ?_, fun hno H' e' => no ?_ H' e'⟩⟩
    · rw [cnt_on hso s j hj] at hoo
      have hoo : (occs p z)[cnt (occs p z) (s + 1) + j]? = some o' := hoo
      rw [get_on] at hoo
      have hlt := (List.getElem?_eq_some_iff.mp hoo).1
      have eo : posOf (seqOn (occs p z) s) s (j + 1) = o' := by
        rw [posOf_succ _ _ _ hlt]
        rw [List.getElem?_eq_getElem hlt] at hoo
        exact Option.some.inj hoo
      have g := go hlt Hg (by rw [eo]; exact r.go hne hwg kg) kg
      rw [eo] at g
      exact g
    · rw [cnt_on hso s j hj] at hno
      rw [len_on] at hj ⊢
      omega
  · refine ifF (by simp) ?_
    rw [seqW1] at hj r go no hpos hwy
    refine ⟨_, s8, v, dy, _, rfl, hwy, waF_no _ _ (by decide +kernel) (by decide +kernel), _, s5, v, e, l, p, z, _, _, rfl, r.ok hp hz hzl ho, hpos, ⟨fun o' Hg h0 hoo hwg kg => ?_, fun hno H' e' => no ?_ H' e'⟩⟩
    · rw [cnt_back hso s j hj] at hoo h0
      have hjl : j < cnt (occs p z) s := by omega
      have ei : (((cnt (occs p z) s - j : Nat) : Int) - 1).toNat = cnt (occs p z) s - (j + 1) := by omega
      rw [ei, ← get_back s j hjl] at hoo
      have hlt := (List.getElem?_eq_some_iff.mp hoo).1
      have eo : posOf (seqBack (occs p z) s) s (j + 1) = o' := by
        rw [posOf_succ _ _ _ hlt]
        rw [List.getElem?_eq_getElem hlt] at hoo
        exact Option.some.inj hoo
      have g := go hlt Hg (by rw [eo]; exact r.go hne hwg kg) kg
      rw [eo] at g
      exact g
    · rw [cnt_back hso s j hj] at hno
      rw [len_back] at hj ⊢
      omega
/-- all places, told by the law's own search -/
theorem occs_range (p z : Wd) (hz : z.length ≤ L p) : (List.range (L p - z.length + 1)).filter (fun j => decide (Occ z (M p) j)) = occs p z := by
  unfold occs
  have key : ∀ d n, (∀ j, n ≤ j → ¬ Occ z (M p) j) → (List.range (n + d)).filter (fun j => decide (Occ z (M p) j)) = (List.range n).filter (fun j => decide (Occ z (M p) j)) := by
    intro d
    induction d with
    | zero => intro n _; rfl
    | succ d ih =>
      intro n hn
      rw [← Nat.add_assoc, List.range_succ, List.filter_append, ih n hn]
      have := hn (n + d) (by omega)
      simp [this]
  have e : L p + 1 = (L p - z.length + 1) + z.length := by omega
  rw [e]
  refine (key z.length (L p - z.length + 1) fun j hj ho => ?_).symm
  have := ho.le
  have : (M p).length = L p := rfl
  omega
theorem test_occ {p z : Wd} {j : Nat} (h : j ≤ L p) : decide (V.str (tx (((M p).drop j).take z.length)) = V.str (tx z)) = decide (Occ z (M p) j) := by
  have hl : (M p).length = L p := rfl
  rw [decide_eq_decide]
  rw [occ_iff]
  constructor
  · intro e
    injection e with e
    exact ⟨by omega, tx_inj e⟩
  · intro e
    rw [e.2]
/-- what is found by a way and the ways ahead of it -/
def dsW (os : List Nat) (s : Nat) : Nat → List PyData
  | 0 => []
  | i + 1 => dsW os s i ++ (iD (seqW os s i) ++ [stayD (posOf (seqW os s i) s (seqW os s i).length)])
theorem seqW_len {os : List Nat} {s i : Nat} : (seqW os s i).length ≤ os.length := by
  unfold seqW
  split
  · rw [len_on]; omega
  · rw [len_back]; exact cnt_le os s
theorem dsW_len (os : List Nat) (s : Nat) : ∀ i, (dsW os s i).length ≤ i * (os.length + 1)
  | 0 => Nat.zero_le _
  | i + 1 => by
    have h1 := dsW_len os s i
    have h2 := seqW_len (os := os) (s := s) (i := i)
    show (dsW os s i ++ (iD (seqW os s i) ++ [stayD _])).length ≤ (i + 1) * (os.length + 1)
    rw [List.length_append, List.length_append, List.length_singleton, Nat.add_mul]
    have h3 : (iD (seqW os s i)).length = (seqW os s i).length := by simp [iD]
    omega
theorem iD_succ (g : List Nat) (j : Nat) (h : j < g.length) : iD (g.take (j + 1)) = iD (g.take j) ++ [.int (g[j] : Nat)] := by
  rw [List.take_succ_eq_append_getElem h]
  unfold iD
  rw [List.map_append]
  rfl
/-- (xs or [s])[-1] -/
theorem or_last {K : Frag} {σ : L2.St} {H : Hp} {i : Nat} {a : Addr} {g : List Nat} {s : Nat} {Q : VK} (h1 : σ[i]? = some (some (.ref a))) (h2 : H a = some (.lst (iV g))) (h3 : σ[7]? = some (some (.int (s : Nat))))
    (k : ∀ H2, Evl.Ex H H2 → Q (.int ((posOf g s g.length : Nat) : Int)) H2) : tOp (rIxL K) (tOrT K (tVar i) (tLst (tCons (tVar 7) tNil))) (tUn (rU fun i => .int (-i)) (tC (.int 1))) σ H Q := by
  refine ⟨_, h1, !(iV g).isEmpty, .inl ⟨_, SqL.of h2, rfl⟩, ?_⟩
  rcases List.eq_nil_or_concat g with rfl | ⟨r, c, rfl⟩
  · refine ifF rfl ⟨_, h3, by show 1 ≤ sizeLine; decide, fun q hq => ⟨_, rfl, _, _, _, _, rfl, rfl, SqL.of upd_same, atI_neg1 (ys := []) rfl, k _ (Evl.Ex.new hq)⟩⟩
  · have e1 : iV (r.concat c) = iV r ++ [.int (c : Nat)] := by simp [iV]
    refine ifT (by rw [e1]; simp) ⟨_, rfl, _, _, _, _, rfl, rfl, SqL.of h2, atI_neg1 e1, ?_⟩
    have e2 : posOf (r.concat c) s (r.concat c).length = c := by
      have hl : (r.concat c).length = r.length + 1 := by simp
      rw [hl, posOf_succ _ _ _ (by rw [hl]; omega)]
      simp
    have := k H (Evl.Ex.refl H)
    rw [e2] at this
    exact this
theorem filter_snoc (os : List Nat) (q : Nat → Bool) (i : Nat) (h : i < os.length) : (os.take (i + 1)).filter q = (os.take i).filter q ++ (if q os[i] = true then [os[i]] else []) := by
  rw [List.take_succ_eq_append_getElem h, List.filter_append]
  congr 1
  simp only [List.filter_cons, List.filter_nil]
section
variable {P : Program} {w : World} {K : Frag} {mg : Str → Option Value} {base : Heap}
theorem sc__law_walked_right : FnScope ["_law_state_here", "_law_row_here", "_law_text", "_law_presser", "_law_start", "_law_piece", "_law_due", "_law_spot", "_law_walker", "_law_found", "_law_way", "_law_goal", "_law_on", "_law_back", "_law_k"] ["_law_state_here", "_law_row_here"] (defScope (top 75)) := ⟨rfl, rfl, rfl, by decide +kernel, rfl, by decide +kernel, by decide +kernel⟩
def H__law_walked_right (P : Program) (w : World) (K : PySem.W.Frag) (mg : Str → Option Value) (base : Heap) : Prop := Has P w K mg base (CX0) 12 "_law_walked_right" ["_law_state_here", "_law_row_here"] (sp__law_walked_right K)
theorem ok__law_walked_right {fd : FuncData} (F : FunD K "_law_walked_right" "_law_walked_right" (defArgs (top 75)) (defBody (top 75)) (defScope (top 75)) [] [] (He.fAd K ("_law_walked_right", none)) fd) (T : Tp K mg) (G : Tg K mg) (hGn : GoneDef K mg) (D3 : Dist K) (hne : cWal K ≠ cPre K) (TB : LamX.TabB base mg (He.cT K ("_law_walked_right", none)).1 (He.cT K ("_law_walked_right", none)).2) (h_Presser___init__ : H_Presser___init__ P w K mg base) (h__law_closed : H__law_closed P w K mg base) (h__law_draw : H__law_draw P w K mg base) (h_Presser_walker : H_Presser_walker P w K mg base) (h_Walker_go : H_Walker_go P w K mg base) (h_Walker_stands : H_Walker_stands P w K mg base) (h_Walker_next_of : H_Walker_next_of P w K mg base) (h_Walker_last_of : H_Walker_last_of P w K mg base) : FnOk P w K mg base (CX0) 12 (He.fAd K ("_law_walked_right", none)) fd ["_law_state_here", "_law_row_here"] (sp__law_walked_right K) := by
  refine okT F sc__law_walked_right (fun vs H Q E h => by (obtain ⟨_, _, rfl, _⟩ := h; rfl)) (fun cdv hcode A outer s H vs Q E hr h => ?_)
  obtain ⟨sd, p, rfl, hs, ht, hp, hp6, k⟩ := h
  refine ⟨_, PSs.nox (pss_cons (ps_asg (pe_tup (pa_cons (pcall h__law_closed hr rfl (pa_cons (pv 1) pa_nil)) (pa_cons (pmake h_Presser___init__ hr rfl (pa_cons (pv 1) pa_nil)) pa_nil))) (pg_tup rfl (pgs_cons (pg_name (i := 2) sc__law_walked_right.nd rfl (Or.inr rfl)) (pgs_cons (pg_name (i := 3) sc__law_walked_right.nd rfl (Or.inl rfl)) pgs_nil)))) (pss_cons (ps_set (i := 4) sc__law_walked_right.nd rfl (Or.inl rfl) (pcall h__law_draw hr rfl (pa_cons (pv 0) (pa_cons (pe_op op_add (pe_callB call_len_str (by rfl) T.len PySem.boot_len (pa_cons (pv 2) pa_nil)) pe_int) pa_nil)))) (pss_cons (ps_set (i := 5) sc__law_walked_right.nd rfl (Or.inr rfl) (pe_slice sl_str (pv 2) (po_some (pv 4)) (po_some (pe_op op_add (pv 4) (pcall h__law_draw hr rfl (pa_cons (pv 0) (pa_cons (pe_callB (call_min2 rfl) (by rfl) T.min (by decide +kernel) (pa_cons pe_int (pa_cons (pe_op op_add (pe_op op_sub (pe_callB call_len_str (by rfl) T.len PySem.boot_len (pa_cons (pv 2) pa_nil)) (pv 4)) pe_int) pa_nil))) pa_nil))))))) (pss_cons (ps_setLc (i := 6) (own := [("_law_k", 14)]) (g := gName 14) (tt := _) rfl sc__law_walked_right.nd rfl rfl (sw_true rfl rfl rfl (by decide +kernel)) (pi_range1 rfl T.range (pa_cons (pe_op op_add (pe_op op_sub (pe_callB call_len_str (by rfl) T.len PySem.boot_len (pa_cons (pv 2) pa_nil)) (pe_callB call_len_str (by rfl) T.len PySem.boot_len (pa_cons (pv 5) pa_nil))) pe_int) pa_nil)) (blkOk_by (own := [("_law_k", 14)]) (N := ["_law_state_here", "_law_row_here", "_law_text", "_law_presser", "_law_start", "_law_piece", "_law_due", "_law_spot", "_law_walker", "_law_found", "_law_way", "_law_goal", "_law_on", "_law_back", "_law_k"]) (sc := defScope (top 75)) (by decide +kernel)) (fun _ _ _ _ _ => pg_name (i := 14) sc__law_walked_right.nd rfl (Or.inl rfl)) (fun _ _ _ _ _ => pts_one (pt_cmpR op_eq (pe_slice sl_str (pv 2) (po_some (pv 14)) (po_some (pe_op op_add (pv 14) (pe_callB call_len_str (by rfl) T.len PySem.boot_len (pa_cons (pv 5) pa_nil))))) (pv 5) (nomark _))) (fun _ _ _ _ _ => (pv 14))) (pss_cons (ps_set (i := 7) sc__law_walked_right.nd rfl (Or.inr rfl) (pcall h__law_draw hr rfl (pa_cons (pv 0) (pa_cons (pe_op op_add (pe_callB call_len_str (by rfl) T.len PySem.boot_len (pa_cons (pv 2) pa_nil)) pe_int) pa_nil)))) (pss_cons (ps_asg (pe_tup (pa_cons (pmeth h_Presser_walker (pv 3) hr (pa_cons (pv 7) pa_nil)) (pa_cons (pe_lst pa_nil) pa_nil))) (pg_tup rfl (pgs_cons (pg_name (i := 8) sc__law_walked_right.nd rfl (Or.inr rfl)) (pgs_cons (pg_name (i := 9) sc__law_walked_right.nd rfl (Or.inl rfl)) pgs_nil)))) (pss_cons (ps_for PassesOwn.never rfl (pi_range1 rfl T.range (pa_cons pe_int pa_nil)) (pg_name (i := 10) sc__law_walked_right.nd rfl (Or.inr rfl)) (pss_cons (ps_expr (pmeth h_Walker_go (pv 8) hr (pa_cons (pv 7) pa_nil))) (pss_cons (ps_set (i := 11) sc__law_walked_right.nd rfl (Or.inl rfl) (pmeth0 h_Walker_stands (pv 8) hr)) (pss_one (ps_while PassesOwn.never (pt_cmpR op_notN (pv 11) pe_non (nomark _)) (pss_cons (ps_set (i := 11) sc__law_walked_right.nd rfl (Or.inl rfl) (pgone rfl hGn G TB hcode (in_k K) (hu_k D3) hr (LamX.lamS_by (sc := defScope (top 75)) (by decide +kernel)) rfl (fun _ _ _ _ _ => rfl) (fun A outer s H E f c hr => (pe_ifExp (pt_cmpR op_eq (pv 10) pe_int (nomark _)) (pmethXK (K := K) rfl h_Walker_next_of (passes_call (W := fun cls d _ H => E cls d H) (takes_of rfl rfl rfl rfl) (fun _ _ _ _ q => q)) (pv 8) hr (pa_cons (pv 5) pa_nil)) (pmethXK (K := K) rfl h_Walker_last_of (passes_call (W := fun cls d _ H => E cls d H) (takes_of rfl rfl rfl rfl) (fun _ _ _ _ q => q)) (pv 8) hr (pa_cons (pv 5) pa_nil)))))) (pss_one (ps_expr (pe_bm PySem.F.plainAttrs_list PySem.F.slot_list_append PySem.F.type_list_append mt_append (pv 9) (pa_cons (pe_ifExp (pt_cmpR op_notN (pv 11) pe_non (nomark _)) (pv 11) (pe_tup (pa_cons pe_str (pa_cons (pmeth0 h_Walker_stands (pv 8) hr) pa_nil)))) pa_nil)))))))))) (pss_cons (ps_par (i := 12) (j := 13) (by rfl) sc__law_walked_right.nd rfl rfl (by decide) rfl rfl (pa_cons (pe_lc (own := [("_law_k", 14)]) (g := gName 14) (tt := _) rfl sc__law_walked_right.nd (pi_list (pv 6)) (blkOk_by (own := [("_law_k", 14)]) (N := ["_law_state_here", "_law_row_here", "_law_text", "_law_presser", "_law_start", "_law_piece", "_law_due", "_law_spot", "_law_walker", "_law_found", "_law_way", "_law_goal", "_law_on", "_law_back", "_law_k"]) (sc := defScope (top 75)) (by decide +kernel)) (fun _ _ _ _ _ => pg_name (i := 14) sc__law_walked_right.nd rfl (Or.inl rfl)) (fun _ _ _ _ _ => pts_one (pt_cmpR op_gt (pv 14) (pv 7) (nomark _))) (fun _ _ _ _ _ => (pv 14))) (pa_cons (pe_revL (pe_lc (own := [("_law_k", 14)]) (g := gName 14) (tt := _) rfl sc__law_walked_right.nd (pi_list (pv 6)) (blkOk_by (own := [("_law_k", 14)]) (N := ["_law_state_here", "_law_row_here", "_law_text", "_law_presser", "_law_start", "_law_piece", "_law_due", "_law_spot", "_law_walker", "_law_found", "_law_way", "_law_goal", "_law_on", "_law_back", "_law_k"]) (sc := defScope (top 75)) (by decide +kernel)) (fun _ _ _ _ _ => pg_name (i := 14) sc__law_walked_right.nd rfl (Or.inl rfl)) (fun _ _ _ _ _ => pts_one (pt_cmpR op_lt (pv 14) (pv 7) (nomark _))) (fun _ _ _ _ _ => (pv 14)))) pa_nil)) (by rfl)) (pss_one (ps_ret (pe_cmpR (op_eqD hr.units) (pv 9) (pe_op op_cat (pe_op op_cat (pe_op op_cat (pv 12) (pe_lst (pa_cons (pe_tup (pa_cons pe_str (pa_cons (pe_ix ix_list (pe_orT (pv 12) (pe_one (pe_lst (pa_cons (pv 7) pa_nil)))) (pe_un un_neg pe_int) (fun _ _ => rfl)) pa_nil))) pa_nil))) (pv 13)) (pe_lst (pa_cons (pe_tup (pa_cons pe_str (pa_cons (pe_ix ix_list (pe_orT (pv 13) (pe_one (pe_lst (pa_cons (pv 7) pa_nil)))) (pe_un un_neg pe_int) (fun _ _ => rfl)) pa_nil))) pa_nil))) (nomark _)))))))))))), ?_⟩
  have hL63 : L p ≤ 63 := by
    have := L_lt hp6
    have : (2 : Nat) ^ 6 = 64 := rfl
    omega
  have hMl : (M p).length = L p := rfl
  have htl : (tx (M p)).length = L p := by rw [tx_len]; rfl
  -- the mirror, the presser
  refine ⟨_, rfl, p, rfl, hp, hp6, fun H1 e1 => ⟨_, rfl, fun e dx he hdx hne0 => ⟨e, dx, _, rfl, upd_same, hp, fun l H2 hl hpre k1 => ⟨rfl, by show 2 ≤ sizeLine; decide, fun q hq => ⟨q, _, rfl, SqT.of upd_same, rfl, _, _, rfl, _, _, rfl, rfl, ?_⟩⟩⟩⟩⟩
  have x0 : Evl.Ex H1 (upd (upd H1 dx (.own e)) e (.ins (cPre K) dx [])) := ((Evl.Ex.refl H1).mut hdx).mut he
  have hlH : H l = none := Evl.fresh_back (e1.trans x0) hl
  have heH : H e = none := Evl.fresh_back e1 he
  have e02 : Evl.Ex H (upd H2 q (.tup [.str (tx (M p)), .ref e])) := fun b o hb => Evl.Ex.new hq b o (k1 b o (x0 b o (e1 b o hb)) (ne_of_none (e1 b o hb) he))
  have hpre2 : PreAt K (upd H2 q (.tup [.str (tx (M p)), .ref e])) e l p 0 := hpre.ex (Evl.Ex.new hq)
  clear k1 x0 hpre
  generalize upd H2 q (.tup [.str (tx (M p)), .ref e]) = H2' at e02 hpre2 ⊢
  have hs2 := hs.ex e02
  have ht2 := ht.ext e02
  obtain ⟨kvs0, hk0⟩ := id hs.dk
  have sde : e ≠ sd := fun z => by rw [← z, heH] at hk0; cases hk0
  have sdl : l ≠ sd := fun z => by rw [← z, hlH] at hk0; cases hk0
  -- the piece
  refine ⟨_, rfl, _, rfl, _, rfl, Evl.sz_of (by omega), _, _, rfl, rfl, sd, _, rfl, hs2, by omega, by omega, fun a0 H3 ha0 ha1 hs3 k3 => ?_⟩
  obtain ⟨a, rfl⟩ : ∃ a : Nat, a0 = (a : Nat) := ⟨a0.toNat, by omega⟩
  have ht3 : LamX.Tabs (tabs K) H3 := by
    obtain ⟨kvs, hk⟩ := hs2.dk
    exact tabs_dk ht2 k3 hk
  refine ⟨_, rfl, _, rfl, _, rfl, _, rfl, _, rfl, _, rfl, _, rfl, Evl.sz_of (by omega), _, rfl, _, _, rfl, rfl, _, _, rfl, rfl, _, _, rfl, sd, _, rfl, hs3, by split <;> omega, by split <;> omega, fun r0 H4 hr0 hr1 hs4 k4 => ?_⟩
  obtain ⟨r, rfl⟩ : ∃ r : Nat, r0 = (r : Nat) := ⟨r0.toNat, by omega⟩
  have har : a + r ≤ L p ∧ r ≤ 9 := by split at hr1 <;> omega
  have ht4 : LamX.Tabs (tabs K) H4 := by
    obtain ⟨kvs, hk⟩ := hs3.dk
    exact tabs_dk ht3 k4 hk
  have ear : (a : Int) + (r : Nat) = ((a + r : Nat) : Int) := by omega
  refine ⟨_, _, rfl, rfl, _, rfl, _, rfl, Evl.sz_of (by omega), ?_⟩
  rw [ear, cutS_mid _ _ _ (by omega), Nat.add_sub_cancel_left]
  have hocc : ∃ j, Occ (((M p).drop a).take r) (M p) j := ⟨a, occ_win p a r har.1⟩
  have hzg : Good (((M p).drop a).take r) := (hp.good.M.drop a).take r
  have hzl : (((M p).drop a).take r).length ≤ 9 := by rw [List.length_take]; omega
  have hzL : (((M p).drop a).take r).length ≤ L p := by rw [List.length_take, List.length_drop]; omega
  generalize ((M p).drop a).take r = z at hocc hzg hzl hzL ⊢
  have htz : (tx z).length = z.length := tx_len z
  -- all its places
  refine ⟨_, rfl, _, rfl, Evl.sz_of (by omega), _, rfl, _, rfl, Evl.sz_of (by omega), _, _, rfl, rfl, _, _, rfl, rfl, _, rfl, by omega, by omega, fun D hD => ?_⟩
  have eT : (((tx (M p)).length : Int) - ((tx z).length : Nat) + 1).toNat = L p - z.length + 1 := by omega
  refine lc_it walk_range (fun i H' => Evl.Ex H4 H' ∧ H' D = some (.lst (iV ((List.range i).filter fun j => decide (Occ z (M p) j))))) ?_ (fun _ _ _ _ => trivial) ?_ ?_
  · exact ⟨(Evl.Ex.refl H4).mut hD, by rw [upd_same]; rfl⟩
  · rintro i x Ha Hb hi ⟨ea, hda⟩ ⟨rfl, hv'⟩
    have hv2 : x = .int (i : Nat) := hv'.trans (congrArg V.int (Int.zero_add _))
    subst hv2
    rw [eT] at hi
    refine ⟨rfl, ?_⟩
    have eiz : (i : Int) + ((tx z).length : Nat) = ((i + z.length : Nat) : Int) := by omega
    refine ⟨_, rfl, _, rfl, _, rfl, _, rfl, _, rfl, _, rfl, Evl.sz_of (by omega), _, _, rfl, rfl, _, rfl, _, rfl, Evl.sz_of (by omega), ?_⟩
    rw [eiz, cutS_mid _ _ _ (by omega), Nat.add_sub_cancel_left]
    refine ⟨_, rfl, rfl, _, rfl, ?_⟩
    rw [test_occ (by omega)]
    have hfl : ((List.range i).filter fun j => decide (Occ z (M p) j)).length ≤ i := by
      have := List.length_filter_le (fun j => decide (Occ z (M p) j)) (List.range i)
      rwa [List.length_range] at this
    cases hq2 : decide (Occ z (M p) i) with
    | true =>
      refine iteT ⟨_, rfl, _, hda, Evl.sz_lt (by rw [iV_len]; omega), ea.mut hD, ?_⟩
      rw [upd_same, List.range_succ, List.filter_append]
      simp [iV, hq2]
    | false =>
      refine iteF ⟨ea, ?_⟩
      rw [List.range_succ, List.filter_append]
      simp [hq2]
      exact hda
  · rintro Ha ⟨ea, hda⟩
    rw [eT, occs_range p z hzL] at hda
    have hsa := hs4.ex ea
    have hta := ht4.ext ea
    have k0a : Kp sd H Ha := (((Kp.of e02).trans k3).trans k4).ex ea
    have hprea : PreAt K Ha e l p 0 := ((hpre2.kpn (KpN.kp k3) sde sdl).kpn (KpN.kp k4) sde sdl).ex ea
    have hso := occs_sorted p z
    have hol : (occs p z).length ≤ 64 := by
      unfold occs
      have := List.length_filter_le (fun j => decide (Occ z (M p) j)) (List.range (L p + 1))
      rw [List.length_range] at this
      omega
    have sdD : D ≠ sd := fun z => by
      obtain ⟨kvs, hk⟩ := hs4.dk
      rw [← z, hD] at hk
      cases hk
    -- the number, the walker
    refine ⟨_, rfl, _, rfl, _, rfl, Evl.sz_of (by omega), _, _, rfl, rfl, sd, _, rfl, hsa, by omega, by omega, fun n0 H5 hn0 hn1 hs5 k5 => ?_⟩
    obtain ⟨n, rfl⟩ : ∃ n : Nat, n0 = (n : Nat) := ⟨n0.toNat, by omega⟩
    have hn : n ≤ L p := by omega
    have ht5 : LamX.Tabs (tabs K) H5 := by
      obtain ⟨kvs, hk⟩ := hsa.dk
      exact tabs_dk hta k5 hk
    have hpre5 := hprea.kpn (KpN.kp k5) sde sdl
    have hd5 := k5 _ _ hda sdD
    obtain ⟨⟨dxe, rr, hpe⟩, wsl, hpl, hpl2⟩ := id hpre5
    have lD : l ≠ D := fun zz => by
      obtain ⟨_, ws, gl, _⟩ := hpre2.kpn (KpN.kp (k3.trans k4)) sde sdl
      rw [zz, hD] at gl
      cases gl
    refine ⟨_, rfl, e, dxe, _, rfl, hpe, prF_no _ _ _ (by decide +kernel) (by decide +kernel) (by decide +kernel), _, rfl, e, l, p, n, rfl, hpre5, hp, hn, fun v H8 hv hw8 hpre8 k8 => ?_⟩
    obtain ⟨rr8, hs8, hvH, k08⟩ := walker_made hs heH hlH (k0a.trans k5) hs5 ht5 hpre5 (Evl.Ex.refl H5) hv hw8 hpre8 k8
    have hd8 := k8 _ _ hd5 (Ne.symm lD)
    have w0 : ∃ n, WalAt K H8 v e n := ⟨_, hw8⟩
    have last : ∀ H' pos, RR K H8 H' v e l p pos → Q (.bl true) H' := fun H' pos h' => k H' (hs8.rr w0 h') h'.tb (k08.new hvH h'.kp)
    obtain ⟨dv8, hv8⟩ := id hw8
    have Dv : D ≠ v := fun zz => by rw [zz, hv8] at hd8; cases hd8
    refine ⟨by show 0 ≤ sizeLine; decide, fun f hf => ⟨by show 2 ≤ sizeLine; decide, fun q9 hq9 => ⟨q9, _, rfl, SqT.of upd_same, rfl, _, _, rfl, _, _, rfl, rfl, ?_⟩⟩⟩
    have e89 : Evl.Ex H8 (upd (upd H8 f (.lst [])) q9 (.tup [.ref v, .ref f])) := (Evl.Ex.new hf).trans (Evl.Ex.new hq9)
    have rr9 := rr8.ex e89
    have hf9 : upd (upd H8 f (.lst [])) q9 (.tup [.ref v, .ref f]) f = some (.lst []) := by rw [upd_ne (fun zz => by rw [← zz, upd_same] at hq9; cases hq9)]; exact upd_same
    generalize upd (upd H8 f (.lst [])) q9 (.tup [.ref v, .ref f]) = H9 at rr9 hf9 ⊢
    have lf : l ≠ f := fun zz => by
      obtain ⟨_, ws, gl, _⟩ := hpre8
      rw [zz, hf] at gl
      cases gl
    have fv : ∀ {H' : Hp} {xs : List V} {pos : Nat}, H' f = some (.lst xs) → WalAt K H' v e pos → f ≠ v := fun h1 h2 zz => by
      obtain ⟨dx, g⟩ := h2
      rw [zz, g] at h1
      cases h1
    have tv : ∀ {H' H'' : Hp} {pos : Nat}, WalAt K H' v e pos → Kp v H' H'' → TupKp H' H'' := fun h2 k' => by
      obtain ⟨dx, g⟩ := h2
      exact TupKp.kp k' fun xs zz => by rw [g] at zz; cases zz
    have tf : ∀ {H' : Hp} {xs ys : List V}, H' f = some (.lst xs) → TupKp H' (upd H' f (.lst ys)) := fun h1 b ts hb => by
      rw [upd_ne (fun zz => by rw [zz, h1] at hb; cases hb)]
      exact hb
    -- the two ways
    refine ⟨2, rfl, by decide, by decide, for_it walk_range (fun i σ H' => ∃ (x10 x11 : Option V) (xs : List V) (pos : Nat), σ = [some (.ref sd), some (.str (tx p)), some (.str (tx (M p))), some (.ref e), some (.int (a : Nat)), some (.str (tx z)), some (.ref D), some (.int (n : Nat)), some (.ref v), some (.ref f), x10, x11, none, none, none] ∧
      H' f = some (.lst xs) ∧ Fd H' xs (dsW (occs p z) n i) ∧ RR K H8 H' v e l p pos) ?_ (fun _ _ _ _ _ => trivial) ?_ ?_⟩
    · exact ⟨none, none, [], n, rfl, hf9, .nil, rr9⟩
    · rintro i x σ Hb Hc hi ⟨x10, x11, xs, pos, rfl, hfb, hdb, rb⟩ ⟨rfl, hv'⟩
      have hv2 : x = .int (i : Nat) := hv'.trans (congrArg V.int (Int.zero_add _))
      subst hv2
      have hi2 : i < 2 := hi
      obtain ⟨dz, hwz⟩ := id rb.wal
      refine ⟨_, rfl, v, dz, _, rfl, hwz, waF_no _ _ (by decide +kernel) (by decide +kernel), _, rfl, v, e, l, p, pos, 1, n, rfl, rb.wal, rb.pre, hp, hn, fun Hd hwd kd => ?_⟩
      have rd := rb.go hne hwd kd
      have hfd := kd _ _ hfb (fv hfb rb.wal)
      have hdd := hdb.keep (tv rb.wal kd)
      obtain ⟨dy, hwy⟩ := id hwd
      refine ⟨_, rfl, v, dy, _, rfl, hwy, waF_no _ _ (by decide +kernel) (by decide +kernel), v, e, _, rfl, hwd, fun He ee => ?_⟩
      have re := rd.ex ee
      have hfe := ee _ _ hfd
      have hde := hdd.keep (TupKp.ex ee)
      have hsl := seqW_len (os := occs p z) (s := n) (i := i)
      have hdl := dsW_len (occs p z) n i
      refine ⟨fun m σ H' => ∃ (x11 : Option V) (xs : List V), σ = [some (.ref sd), some (.str (tx p)), some (.str (tx (M p))), some (.ref e), some (.int (a : Nat)), some (.str (tx z)), some (.ref D), some (.int (n : Nat)), some (.ref v), some (.ref f), some (.int (i : Nat)), x11, none, none, none] ∧ H' f = some (.lst xs) ∧
        ((∃ j, j ≤ (seqW (occs p z) n i).length ∧ m = (seqW (occs p z) n i).length - j + 1 ∧ x11 = some (.int ((posOf (seqW (occs p z) n i) n j : Nat) : Int)) ∧ Fd H' xs (dsW (occs p z) n i ++ iD ((seqW (occs p z) n i).take j)) ∧ RR K H8 H' v e l p (posOf (seqW (occs p z) n i) n j)) ∨
          (m = 0 ∧ x11 = some .non ∧ Fd H' xs (dsW (occs p z) n (i + 1)) ∧ ∃ pos, RR K H8 H' v e l p pos)), ⟨_, _, _, rfl, hfe, .inl ⟨0, Nat.zero_le _, rfl, rfl, by rw [List.take_zero]; show Fd He xs (dsW (occs p z) n i ++ []); rw [List.append_nil]; exact hde, re⟩⟩, ?_⟩
      rintro m σ Hf ⟨x11', ys, rfl, hff, hcase⟩
      rcases hcase with ⟨j, hj, rfl, rfl, hdf, rf⟩ | ⟨rfl, rfl, hdf, pos2, rf⟩
      · refine ⟨_, rfl, rfl, _, rfl, iteT ⟨fun σ' H' => ∃ m', m' < (seqW (occs p z) n i).length - j + 1 ∧ ∃ (x11 : Option V) (xs : List V), σ' = [some (.ref sd), some (.str (tx p)), some (.str (tx (M p))), some (.ref e), some (.int (a : Nat)), some (.str (tx z)), some (.ref D), some (.int (n : Nat)), some (.ref v), some (.ref f), some (.int (i : Nat)), x11, none, none, none] ∧ H' f = some (.lst xs) ∧
          ((∃ j, j ≤ (seqW (occs p z) n i).length ∧ m' = (seqW (occs p z) n i).length - j + 1 ∧ x11 = some (.int ((posOf (seqW (occs p z) n i) n j : Nat) : Int)) ∧ Fd H' xs (dsW (occs p z) n i ++ iD ((seqW (occs p z) n i).take j)) ∧ RR K H8 H' v e l p (posOf (seqW (occs p z) n i) n j)) ∨
            (m' = 0 ∧ x11 = some .non ∧ Fd H' xs (dsW (occs p z) n (i + 1)) ∧ ∃ pos, RR K H8 H' v e l p pos)), fun σ' H' h => h, ?_⟩⟩
        refine ⟨rf.tb, fun H1' eN T1 => ?_⟩
        intro H2' Q' e2' hQ
        have rg := (rf.extN eN T1).ex e2'
        have hfg := e2' _ _ (eN _ _ hff (fun ps zz => by cases zz))
        have hdg := (hdf.keep (TupKp.extN eN)).keep (TupKp.ex e2')
        have hyl := hdg.len
        have hyl2 : ys.length ≤ 300 := by
          rw [hyl, List.length_append]
          have : (iD ((seqW (occs p z) n i).take j)).length ≤ (seqW (occs p z) n i).length := by simp [iD]; omega
          have : i * ((occs p z).length + 1) ≤ 1 * 65 := Nat.mul_le_mul (by omega) (by omega)
          omega
        refine lam_walk (i := i) (s := n) (j := j) hne hp hzg (by omega) hocc hn hi2 hj rg rfl rfl rfl (fun hlt Hh rh kh => hQ _ _ ?_) (fun hlen H' e' => ⟨true, G.eG, fun _ => ?_, fun zz => by cases zz⟩)
        · have hfh := kh _ _ hfg (fv hfg rg.wal)
          have hdh := hdg.keep (tv rg.wal kh)
          refine ⟨_, rfl, .inl ⟨rfl, _, SqL.of hfh⟩, _, rfl, rfl, _, rfl, iteT ⟨_, rfl, f, _, _, rfl, rfl, hfh, Evl.sz_lt (by omega), ?_⟩⟩
          refine ⟨(seqW (occs p z) n i).length - (j + 1) + 1, by omega, _, _, rfl, upd_same, .inl ⟨j + 1, hlt, rfl, rfl, ?_, rh.app hf hfh lf⟩⟩
          have hps := posOf_succ (seqW (occs p z) n i) n j hlt
          rw [iD_succ _ _ hlt, ← List.append_assoc, hps]
          exact (hdh.keep (tf hfh)).app (.int _ .nil)
        · have rh := rg.ex e'
          have hfh := e' _ _ hfg
          have hdh := hdg.keep (TupKp.ex e')
          obtain ⟨du, hwu⟩ := id rh.wal
          refine ⟨_, rfl, .inl ⟨rfl, _, SqL.of hfh⟩, _, rfl, rfl, _, rfl, iteF ⟨_, rfl, v, du, _, rfl, hwu, waF_no _ _ (by decide +kernel) (by decide +kernel), v, e, _, rfl, rh.wal, fun Hi ei => ⟨by show 2 ≤ sizeLine; decide, fun t ht9 => ?_⟩⟩⟩
          have hfi := ei _ _ hfh
          have eit := Evl.Ex.new (H := Hi) (o := .tup [.str "stays", .int ((posOf (seqW (occs p z) n i) n j : Nat) : Int)]) ht9
          have hfi2 := eit _ _ hfi
          refine ⟨f, _, _, rfl, rfl, hfi2, Evl.sz_lt (by omega), ?_⟩
          have ri := (rh.ex ei).ex eit
          refine ⟨0, by omega, _, _, rfl, upd_same, .inr ⟨rfl, rfl, ?_, _, ri.app hf hfi2 lf⟩⟩
          show Fd _ _ (dsW (occs p z) n i ++ (iD (seqW (occs p z) n i) ++ [stayD (posOf (seqW (occs p z) n i) n (seqW (occs p z) n i).length)]))
          rw [← List.append_assoc, ← hlen]
          have htk : (seqW (occs p z) n i).take j = seqW (occs p z) n i := by rw [hlen, List.take_length]
          rw [htk] at hdh
          refine (((hdh.keep (TupKp.ex ei)).keep (TupKp.ex eit)).keep (tf hfi2)).app (.tup ?_ .nil)
          exact tf hfi2 _ _ upd_same
      · refine ⟨_, rfl, rfl, _, rfl, iteF ⟨_, _, ys, pos2, rfl, hff, hdf, rf⟩⟩
    · rintro σ Hb ⟨x10, x11, xs, pos, rfl, hfb, hdb, rb⟩
      have hdD := rb.kp _ _ hd8 Dv (fun ps zz => by cases zz)
      -- the places behind and ahead
      refine ⟨_, rfl, D, rfl, ⟨_, SqL.of hdD⟩, fun D1 hD1 => ?_⟩
      refine lc_it (walk_list (xs := iV (occs p z))) (fun i H' => Evl.Ex Hb H' ∧ H' D1 = some (.lst (iV (((occs p z).take i).filter fun o => decide (n < o))))) ?_ (fun i H' _ h => SqL.of (h.1 _ _ hdD)) ?_ ?_
      · exact ⟨(Evl.Ex.refl Hb).mut hD1, upd_same⟩
      · rintro i x Hc Hd hi ⟨ec, hc1⟩ ⟨rfl, hx⟩
        rw [iV_len] at hi
        have hx2 : x = .int ((occs p z)[i] : Nat) := by
          rw [iV_get, List.getElem?_eq_getElem hi] at hx
          exact (Option.some.inj hx).symm
        subst hx2
        have hfs := filter_snoc (occs p z) (fun o => decide (n < o)) i hi
        have hfl : (((occs p z).take i).filter fun o => decide (n < o)).length ≤ 64 := by
          have := List.length_filter_le (fun o => decide (n < o)) ((occs p z).take i)
          rw [List.length_take] at this
          omega
        refine ⟨rfl, _, rfl, _, rfl, _, _, rfl, rfl, _, rfl, ite2 (fun hz => ?_) (fun hz => ?_)⟩
        · have hz := of_decide_eq_true hz
          have hz2 : n < (occs p z)[i] := by omega
          rw [if_pos (decide_eq_true hz2)] at hfs
          refine ⟨_, rfl, _, hc1, Evl.sz_lt (by rw [iV_len]; omega), ec.mut hD1, ?_⟩
          rw [upd_same, hfs]
          simp [iV]
        · have hz2 : ¬ n < (occs p z)[i] := fun y => hz (decide_eq_true (by omega))
          rw [if_neg (by simp; omega), List.append_nil] at hfs
          exact ⟨ec, by rw [hfs]; exact hc1⟩
      · rintro Hc ⟨ec, hc1⟩
        rw [iV_len, List.take_length, filter_gt_drop hso] at hc1
        refine ⟨_, rfl, D, rfl, ⟨_, SqL.of (ec _ _ hdD)⟩, fun D2 hD2 => ?_⟩
        refine lc_it (walk_list (xs := iV (occs p z))) (fun i H' => Evl.Ex Hc H' ∧ H' D2 = some (.lst (iV (((occs p z).take i).filter fun o => decide (o < n))))) ?_ (fun i H' _ h => SqL.of (h.1 _ _ (ec _ _ hdD))) ?_ ?_
        · exact ⟨(Evl.Ex.refl Hc).mut hD2, upd_same⟩
        · rintro i x Hd He hi ⟨ed, hd1⟩ ⟨rfl, hx⟩
          rw [iV_len] at hi
          have hx2 : x = .int ((occs p z)[i] : Nat) := by
            rw [iV_get, List.getElem?_eq_getElem hi] at hx
            exact (Option.some.inj hx).symm
          subst hx2
          have hfs := filter_snoc (occs p z) (fun o => decide (o < n)) i hi
          have hfl : (((occs p z).take i).filter fun o => decide (o < n)).length ≤ 64 := by
            have := List.length_filter_le (fun o => decide (o < n)) ((occs p z).take i)
            rw [List.length_take] at this
            omega
          refine ⟨rfl, _, rfl, _, rfl, _, _, rfl, rfl, _, rfl, ite2 (fun hz => ?_) (fun hz => ?_)⟩
          · have hz := of_decide_eq_true hz
            have hz2 : (occs p z)[i] < n := by omega
            rw [if_pos (decide_eq_true hz2)] at hfs
            refine ⟨_, rfl, _, hd1, Evl.sz_lt (by rw [iV_len]; omega), ed.mut hD2, ?_⟩
            rw [upd_same, hfs]
            simp [iV]
          · have hz2 : ¬ (occs p z)[i] < n := fun y => hz (decide_eq_true (by omega))
            rw [if_neg (by simp; omega), List.append_nil] at hfs
            exact ⟨ed, by rw [hfs]; exact hd1⟩
        · rintro Hd ⟨ed, hd1⟩
          rw [iV_len, List.take_length, filter_lt_take hso] at hd1
          refine ⟨D2, _, rfl, SqL.of hd1, fun D3 hD3 => ⟨_, _, rfl, ?_⟩⟩
          rw [iV_rev]
          have eon : (occs p z).drop (cnt (occs p z) (n + 1)) = seqW (occs p z) n 0 := rfl
          have eba : ((occs p z).take (cnt (occs p z) n)).reverse = seqW (occs p z) n 1 := rfl
          rw [eon] at hc1
          rw [eba]
          have ed3 : Evl.Ex Hd (upd Hd D3 (.lst (iV (seqW (occs p z) n 1)))) := Evl.Ex.new hD3
          have hback : upd Hd D3 (.lst (iV (seqW (occs p z) n 1))) D3 = some (.lst (iV (seqW (occs p z) n 1))) := upd_same
          have hon := ed3 _ _ (ed _ _ hc1)
          have ebe : Evl.Ex Hb (upd Hd D3 (.lst (iV (seqW (occs p z) n 1)))) := (ec.trans ed).trans ed3
          have hfe := ebe _ _ hfb
          have hde := hdb.keep (TupKp.ex ebe)
          have re := rb.ex ebe
          have l0 := seqW_len (os := occs p z) (s := n) (i := 0)
          have l1 := seqW_len (os := occs p z) (s := n) (i := 1)
          generalize upd Hd D3 (.lst (iV (seqW (occs p z) n 1))) = He at hback hon hfe hde re ⊢
          refine ⟨_, rfl, _, rfl, or_last (K := K) (i := 12) (a := D1) (g := seqW (occs p z) n 0) (s := n) rfl hon rfl fun Hx ex => ⟨by show 2 ≤ sizeLine; decide, fun t1 ht1 => ⟨by show 1 ≤ sizeLine; decide, fun l1 hl1 => ?_⟩⟩⟩
          have x1 := Evl.Ex.new (H := Hx) (o := .tup [.str "stays", .int ((posOf (seqW (occs p z) n 0) n (seqW (occs p z) n 0).length : Nat) : Int)]) ht1
          have g1 : upd Hx t1 (.tup [.str "stays", .int ((posOf (seqW (occs p z) n 0) n (seqW (occs p z) n 0).length : Nat) : Int)]) t1 = _ := upd_same
          generalize upd Hx t1 (.tup [.str "stays", .int ((posOf (seqW (occs p z) n 0) n (seqW (occs p z) n 0).length : Nat) : Int)]) = Hx1 at x1 g1 hl1 ⊢
          have x2 := Evl.Ex.new (H := Hx1) (o := .lst [.ref t1]) hl1
          have g2 : upd Hx1 l1 (.lst [.ref t1]) l1 = _ := upd_same
          have g1' := x2 _ _ g1
          have on2 := x2 _ _ (x1 _ _ (ex _ _ hon))
          have ba2 := x2 _ _ (x1 _ _ (ex _ _ hback))
          refine ⟨D1, l1, _, _, rfl, rfl, on2, g2, Evl.sz_of (by rw [iV_len]; simp; omega), fun c1 hc9 => ?_⟩
          generalize upd Hx1 l1 (.lst [.ref t1]) = Hx2 at x2 g2 g1' on2 ba2 hc9 ⊢
          have x3 := Evl.Ex.new (H := Hx2) (o := .lst (iV (seqW (occs p z) n 0) ++ [.ref t1])) hc9
          have g3 : upd Hx2 c1 (.lst (iV (seqW (occs p z) n 0) ++ [.ref t1])) c1 = _ := upd_same
          have g13 := x3 _ _ g1'
          have ba3 := x3 _ _ ba2
          generalize upd Hx2 c1 (.lst (iV (seqW (occs p z) n 0) ++ [.ref t1])) = Hx3 at x3 g3 g13 ba3 ⊢
          refine ⟨_, rfl, c1, D3, _, _, rfl, rfl, g3, ba3, Evl.sz_of (by rw [List.length_append, iV_len, iV_len]; simp; omega), fun c2 hc2 => ?_⟩
          have x4 := Evl.Ex.new (H := Hx3) (o := .lst (iV (seqW (occs p z) n 0) ++ [.ref t1] ++ iV (seqW (occs p z) n 1))) hc2
          have g4 : upd Hx3 c2 (.lst (iV (seqW (occs p z) n 0) ++ [.ref t1] ++ iV (seqW (occs p z) n 1))) c2 = _ := upd_same
          have g14 := x4 _ _ g13
          have ba4 := x4 _ _ ba3
          generalize upd Hx3 c2 (.lst (iV (seqW (occs p z) n 0) ++ [.ref t1] ++ iV (seqW (occs p z) n 1))) = Hx4 at x4 g4 g14 ba4 ⊢
          refine or_last (K := K) (i := 13) (a := D3) (g := seqW (occs p z) n 1) (s := n) rfl ba4 rfl fun Hy ey => ⟨by show 2 ≤ sizeLine; decide, fun t2 ht2 => ⟨by show 1 ≤ sizeLine; decide, fun l2 hl2 => ?_⟩⟩
          have x5 := Evl.Ex.new (H := Hy) (o := .tup [.str "stays", .int ((posOf (seqW (occs p z) n 1) n (seqW (occs p z) n 1).length : Nat) : Int)]) ht2
          have g5 : upd Hy t2 (.tup [.str "stays", .int ((posOf (seqW (occs p z) n 1) n (seqW (occs p z) n 1).length : Nat) : Int)]) t2 = _ := upd_same
          generalize upd Hy t2 (.tup [.str "stays", .int ((posOf (seqW (occs p z) n 1) n (seqW (occs p z) n 1).length : Nat) : Int)]) = Hx5 at x5 g5 hl2 ⊢
          have x6 := Evl.Ex.new (H := Hx5) (o := .lst [.ref t2]) hl2
          have g6 : upd Hx5 l2 (.lst [.ref t2]) l2 = _ := upd_same
          have e46 := (ey.trans x5).trans x6
          have g56 := x6 _ _ g5
          have g46 := e46 _ _ g4
          have g16 := e46 _ _ g14
          generalize upd Hx5 l2 (.lst [.ref t2]) = Hx6 at x6 g6 e46 g56 g46 g16 ⊢
          refine ⟨c2, l2, _, _, rfl, rfl, g46, g6, Evl.sz_of (by rw [List.length_append, List.length_append, iV_len, iV_len]; simp; omega), fun c3 hc3 => ?_⟩
          have x7 := Evl.Ex.new (H := Hx6) (o := .lst (iV (seqW (occs p z) n 0) ++ [.ref t1] ++ iV (seqW (occs p z) n 1) ++ [.ref t2])) hc3
          have g7 : upd Hx6 c3 (.lst (iV (seqW (occs p z) n 0) ++ [.ref t1] ++ iV (seqW (occs p z) n 1) ++ [.ref t2])) c3 = _ := upd_same
          have g57 := x7 _ _ g56
          have g17 := x7 _ _ g16
          have eall := ((((((ex.trans x1).trans x2).trans x3).trans x4).trans e46).trans x7)
          generalize upd Hx6 c3 (.lst (iV (seqW (occs p z) n 0) ++ [.ref t1] ++ iV (seqW (occs p z) n 1) ++ [.ref t2])) = Hx7 at x7 g7 g57 g17 eall ⊢
          have hfz := eall _ _ hfe
          have hdz : Fd Hx7 xs (dsW (occs p z) n 2) := hde.keep (TupKp.ex eall)
          have fdR : Fd Hx7 (iV (seqW (occs p z) n 0) ++ [.ref t1] ++ iV (seqW (occs p z) n 1) ++ [.ref t2]) (dsW (occs p z) n 2) := by
            have h1 : Fd Hx7 [.ref t1] [stayD (posOf (seqW (occs p z) n 0) n (seqW (occs p z) n 0).length)] := .tup g17 .nil
            have h2 : Fd Hx7 [.ref t2] [stayD (posOf (seqW (occs p z) n 1) n (seqW (occs p z) n 1).length)] := .tup g57 .nil
            have h3 := (((Fd.ints (H := Hx7) (seqW (occs p z) n 0)).app h1).app (Fd.ints (seqW (occs p z) n 1))).app h2
            have e9 : dsW (occs p z) n 2 = iD (seqW (occs p z) n 0) ++ [stayD (posOf (seqW (occs p z) n 0) n (seqW (occs p z) n 0).length)] ++ iD (seqW (occs p z) n 1) ++ [stayD (posOf (seqW (occs p z) n 1) n (seqW (occs p z) n 1).length)] := by
              show ([] ++ (iD (seqW (occs p z) n 0) ++ [stayD _])) ++ (iD (seqW (occs p z) n 1) ++ [stayD _]) = _
              simp
            rw [e9]
            exact h3
          have hsh : SeqAt.shaped (.list (dsW (occs p z) n 2)) = true := shaped_list hdz.ok
          refine ⟨.list (dsW (occs p z) n 2), .list (dsW (occs p z) n 2), .lst (SqL.of hfz) hdz.dp, .lst (SqL.of g7) fdR.dp, hsh, hsh, ?_⟩
          rw [eqv_same hsh]
          exact last _ _ (re.ex eall)
end
end Mw
end
section
set_option Elab.async false
set_option linter.all false
set_option maxRecDepth 100000
set_option maxHeartbeats 4000000
/-! the law -/
namespace Mw
open PySem PySem.Spec PyProof.Rows L2 Mir Mr
def sp_law (K : Frag) : Sp := fun vs H Q _ => ∃ (a : Addr) (ns : List Int), vs = [.ref a] ∧ SqL K H a (ns.map V.int) ∧ LamX.Tabs (tabs K) H ∧ ns.length ≤ 63 ∧ ∀ H', Q (.bl true) H'
/-- the script stands still -/
theorem sq_kpn {K : Frag} {H H' : Hp} {a c : Addr} {xs : List V} {kvs : List (Key × V)} (h : SqL K H a xs) (hc : H c = some (.dK kvs)) (e : KpN c H H') : SqL K H' a xs := by
  rcases h with h | h
  · left
    rcases h with h | ⟨o, h⟩
    · exact .inl (e _ _ h (fun z => by rw [z, hc] at h; cases h) (fun ps z => by cases z))
    · exact .inr ⟨o, e _ _ h (fun z => by rw [z, hc] at h; cases h) (fun ps z => by cases z)⟩
  · exact .inr h
theorem tabs_kd {K : Frag} {H H' : Hp} {sd : Addr} (t : LamX.Tabs (tabs K) H) (s : StAt H sd) (k : Kp sd H H') : LamX.Tabs (tabs K) H' := by
  obtain ⟨kvs, hk⟩ := s.dk
  exact tabs_dk t k hk
theorem rg9 (m : Nat) (h1 : 1 ≤ m) (h2 : m ≤ 27) : RgC 0 (m : Nat) 9 ((m + 8) / 9) := by
  have key : ∀ m : Fin 28, 1 ≤ m.val → Builtin.Range.small 0 (m.val : Nat) 9 = true ∧ Builtin.Range.rangeSize 0 (m.val : Nat) 9 = (((m.val + 8) / 9 : Nat) : Int) := by decide +kernel
  obtain ⟨k1, k2⟩ := key ⟨m, by omega⟩ h1
  exact ⟨by decide, by decide, k1, k2⟩
/-- what stands in a turn of the law -/
structure JJ (K : Frag) (H : Hp) (a sd la : Addr) (ns : List Int) (ls : Wd) : Prop where
  scr : SqL K H a (ns.map V.int)
  st : StAt H sd
  tb : LamX.Tabs (tabs K) H
  lst : H la = some (.lst (ls.map fun c => V.str (tx [c])))
theorem JJ.ne {K : Frag} {H : Hp} {a sd la : Addr} {ns : List Int} {ls : Wd} (j : JJ K H a sd la ns ls) : la ≠ sd := Ne.symm (j.st.ne j.lst fun kvs z => by cases z)
theorem JJ.ex {K : Frag} {H H' : Hp} {a sd la : Addr} {ns : List Int} {ls : Wd} (j : JJ K H a sd la ns ls) (e : Evl.Ex H H') : JJ K H' a sd la ns ls := ⟨Evl.ex_l e j.scr, j.st.ex e, j.tb.ext e, e _ _ j.lst⟩
theorem JJ.kp {K : Frag} {H H' : Hp} {a sd la : Addr} {ns : List Int} {ls : Wd} (j : JJ K H a sd la ns ls) (s : StAt H' sd) (k : Kp sd H H') : JJ K H' a sd la ns ls := by
  obtain ⟨kvs, hk⟩ := j.st.dk
  exact ⟨sq_kp j.scr hk k, s, tabs_dk j.tb k hk, k _ _ j.lst j.ne⟩
theorem JJ.kpn {K : Frag} {H H' : Hp} {a sd la : Addr} {ns : List Int} {ls : Wd} (j : JJ K H a sd la ns ls) (s : StAt H' sd) (t : LamX.Tabs (tabs K) H') (k : KpN sd H H') : JJ K H' a sd la ns ls := by
  obtain ⟨kvs, hk⟩ := j.st.dk
  exact ⟨sq_kpn j.scr hk k, s, t, k _ _ j.lst j.ne (fun ps z => by cases z)⟩
section
variable {P : Program} {w : World} {K : Frag} {mg : Str → Option Value} {base : Heap}
theorem sc_law : FnScope ["_law_script", "_law_at", "_law_state_here", "_law_signs_here", "_law_k", "_law_row_here", "_law_few", "_law_size_here"] ["_law_script"] (defScope (top 76)) := ⟨rfl, rfl, rfl, by decide +kernel, rfl, by decide +kernel, by decide +kernel⟩
def H_law (P : Program) (w : World) (K : PySem.W.Frag) (mg : Str → Option Value) (base : Heap) : Prop := Has P w K mg base (CX0) 13 "law" ["_law_script"] (sp_law K)
theorem ok_law {f : Addr} {fd : FuncData} (F : FunD K "law" "law" (defArgs (top 76)) (defBody (top 76)) (defScope (top 76)) [] [] f fd) (T : Tp K mg)  (h__law_state : H__law_state P w K mg base) (h__law_signs : H__law_signs P w K mg base) (h__law_row : H__law_row P w K mg base) (h__law_sizes : H__law_sizes P w K mg base) (h__law_window_right : H__law_window_right P w K mg base) (h__law_read_right : H__law_read_right P w K mg base) (h__law_of : H__law_of P w K mg base) (h__law_walked_right : H__law_walked_right P w K mg base) : FnOk P w K mg base (CX0) 13 f fd ["_law_script"] (sp_law K) := by
  refine F.ok sc_law (fun vs H Q E h => by (obtain ⟨_, _, rfl, _⟩ := h; rfl)) (fun cdv A outer s H vs Q E hr h => ?_)
  obtain ⟨a, ns, rfl, ha, ht, hns, k⟩ := h
  refine ⟨_, PSs.nox (pss_cons (ps_for PassesOwn.never rfl (pi_range3 rfl T.range (pa_cons pe_int (pa_cons (pe_callB (call_max2 rfl) (by rfl) T.max (by decide +kernel) (pa_cons pe_int (pa_cons (pe_callB (call_min2 rfl) (by rfl) T.min (by decide +kernel) (pa_cons (pe_callB call_len_seq (by rfl) T.len PySem.boot_len (pa_cons (pv 0) pa_nil)) (pa_cons pe_int pa_nil))) pa_nil))) (pa_cons pe_int pa_nil)))) (pg_name (i := 1) sc_law.nd rfl (Or.inl rfl)) (pss_cons (ps_set (i := 2) sc_law.nd rfl (Or.inl rfl) (pcall h__law_state hr rfl (pa_cons (pv 0) (pa_cons (pv 1) pa_nil)))) (pss_cons (ps_set (i := 3) sc_law.nd rfl (Or.inl rfl) (pcall h__law_signs hr rfl (pa_cons (pv 2) pa_nil))) (pss_cons (ps_for PassesOwn.never rfl (pi_range1 rfl T.range (pa_cons pe_int pa_nil)) (pg_name (i := 4) sc_law.nd rfl (Or.inl rfl)) (pss_cons (ps_set (i := 5) sc_law.nd rfl (Or.inr rfl) (pcall h__law_row hr rfl (pa_cons (pv 2) (pa_cons (pv 3) (pa_cons pe_int (pa_cons pe_int pa_nil)))))) (pss_cons (ps_setLc (i := 6) (own := [("_law_k", 4), ("_law_size_here", 7)]) (g := gTup K 2 (gCons (gName 4) (gCons (gName 7) gNil))) (tt := _) rfl sc_law.nd rfl rfl (sw_true rfl rfl rfl (by decide +kernel)) (pi_enum (by rfl) T.enumerate (pa_cons (pcall h__law_sizes hr rfl (pa_cons (pv 5) pa_nil)) pa_nil)) (blkOk_by (own := [("_law_k", 4), ("_law_size_here", 7)]) (N := ["_law_script", "_law_at", "_law_state_here", "_law_signs_here", "_law_k", "_law_row_here", "_law_few", "_law_size_here"]) (sc := defScope (top 76)) (by decide +kernel)) (fun _ _ _ _ _ => (pg_tup rfl (pgs_cons (pg_name (i := 4) sc_law.nd rfl (Or.inl rfl) (Or.inr rfl)) (pgs_cons (pg_name (i := 7) sc_law.nd rfl (Or.inl rfl) (Or.inr rfl)) pgs_nil)))) (fun _ _ _ _ _ => pts_one (PW.pt (pw_and (pt_cmpR op_lt (pv 7) pe_int (nomark _)) (pw_and1 (pt_cmpR op_lt (pv 4) (pe_callB call_len_str (by rfl) T.len PySem.boot_len (pa_cons (pv 5) pa_nil)) (nomark _)))))) (fun _ _ _ _ _ => (pv 4))) (pss_one (ps_if (PW.pt (pw_or (pt_not (pt_val (pcall h__law_read_right hr rfl (pa_cons (pv 2) (pa_cons (pv 5) (pa_cons (pcall h__law_of hr rfl (pa_cons (pv 2) (pa_cons (pv 6) pa_nil))) pa_nil)))))) (pw_or1 (pt_not (pt_val (pcall h__law_window_right hr rfl (pa_cons (pv 2) (pa_cons (pv 5) pa_nil)))))))) (pss_one (ps_ret pe_bl)) pss_nil))))) (pss_one (ps_for PassesOwn.never rfl (pi_range1 rfl T.range (pa_cons pe_int pa_nil)) (pg_name (i := 4) sc_law.nd rfl (Or.inl rfl)) (pss_one (ps_if (pt_not (pt_val (pcall h__law_walked_right hr rfl (pa_cons (pv 2) (pa_cons (pcall h__law_row hr rfl (pa_cons (pv 2) (pa_cons (pv 3) (pa_cons pe_int (pa_cons pe_int pa_nil))))) pa_nil))))) (pss_one (ps_ret pe_bl)) pss_nil)))))))) (pss_one (ps_ret pe_bl))), ?_⟩
  have hal : (ns.map V.int).length = ns.length := List.length_map ..
  obtain ⟨m, em, hm1, hm2⟩ : ∃ m : Nat, (if (if (27 : Int) < ((ns.map V.int).length : Nat) then (27 : Int) else ((ns.map V.int).length : Nat)) > 1 then (if (27 : Int) < ((ns.map V.int).length : Nat) then (27 : Int) else ((ns.map V.int).length : Nat)) else 1) = (m : Nat) ∧ 1 ≤ m ∧ m ≤ 27 := by
    refine ⟨(if (if (27 : Int) < ((ns.map V.int).length : Nat) then (27 : Int) else ((ns.map V.int).length : Nat)) > 1 then (if (27 : Int) < ((ns.map V.int).length : Nat) then (27 : Int) else ((ns.map V.int).length : Nat)) else 1).toNat, ?_, ?_, ?_⟩ <;> (split <;> split <;> omega)
  refine ⟨_, rfl, _, _, rfl, .inl ha, _, _, rfl, _, _, rfl, 0, (m : Nat), 9, (m + 8) / 9, by rw [← em], rg9 m hm1 hm2, ?_⟩
  refine for_it walk_rangeC (fun i σ H' => SqL K H' a (ns.map V.int) ∧ LamX.Tabs (tabs K) H' ∧ ∃ x1 x2 x3 x4 x5 x6 x7, σ = [some (.ref a), x1, x2, x3, x4, x5, x6, x7]) ?_ (fun _ _ _ _ _ => trivial) ?_ ?_
  · exact ⟨ha, ht, none, none, none, none, none, none, none, rfl⟩
  · rintro i x σ Ha Hb hi ⟨sa, ta, x1, x2, x3, x4, x5, x6, x7, rfl⟩ ⟨rfl, hv'⟩
    have hi3 : i * 9 ≤ 18 := by omega
    have hv2 : x = .int ((i * 9 : Nat) : Int) := hv'.trans (congrArg V.int (by omega))
    subst hv2
    refine ⟨_, rfl, _, rfl, a, ns, i * 9, rfl, sa, hi3, fun sd H1 hsd e1 hs1 => ?_⟩
    refine ⟨_, rfl, sd, rfl, hs1, fun la ls H2 hla hls hlne hl4 hlg hs2 k2 => ?_⟩
    have j2 : JJ K H2 a sd la ns ls := by
      obtain ⟨kvs, hk⟩ := hs1.dk
      exact ⟨sq_kp (Evl.ex_l e1 sa) hk k2, hs2, tabs_dk (ta.ext e1) k2 hk, hls⟩
    -- twice a great row
    refine ⟨2, rfl, by decide, by decide, for_it walk_range (fun i2 σ H' => JJ K H' a sd la ns ls ∧ ∃ x4 x5 x6 x7, σ = [some (.ref a), some (.int ((i * 9 : Nat) : Int)), some (.ref sd), some (.ref la), x4, x5, x6, x7]) ?_ (fun _ _ _ _ _ => trivial) ?_ ?_⟩
    · exact ⟨j2, x4, x5, x6, x7, rfl⟩
    · rintro i2 y σ Hc Hd hi2 ⟨jc, x4, x5, x6, x7, rfl⟩ ⟨rfl, hv'⟩
      subst hv'
      refine ⟨_, rfl, _, rfl, sd, la, ls, 5, 50, rfl, jc.st, jc.lst, hlne, hl4, hlg, by decide, by decide, fun p He hp hp5 hp50 hse ke => ?_⟩
      have je := jc.kp hse ke
      have hpl := hp.len
      refine ⟨_, rfl, p, rfl, hp, fun q Hf hq ef hqf => ⟨q, _, rfl, SqL.of hqf, fun D hD => ?_⟩⟩
      have jf := je.ex ef
      have hll : (iV (lens p)).length = p.length + 1 := by rw [iV_len, lens_len]
      refine lc_it (walk_enum (xs := iV (lens p))) (fun j H' => Evl.Ex Hf H' ∧ H' D = some (.lst (iV ((List.range j).filter fun c => decide (L (p.take c) < 101 ∧ c < p.length))))) ?_ (fun j H' _ h => SqL.of (h.1 _ _ hqf)) ?_ ?_
      · exact ⟨(Evl.Ex.refl Hf).mut hD, upd_same⟩
      · rintro j v Hg Hh hj ⟨eg, hdg⟩ ⟨T', xx, yy, rfl, hT, rfl, hx, hy⟩
        rw [hll] at hj
        cases hx
        replace hy : (iV (lens p))[j]? = some yy := hy
        rw [lensV_get p j (by omega)] at hy
        cases hy
        refine pair_go ⟨rfl, ?_⟩
        have eh := eg.trans (Evl.Ex.new (o := .tup [.int (j : Nat), .int (L (p.take j) : Nat)]) hT)
        have DT : D ≠ T' := ne_of_none hdg hT
        have hdh : upd Hg T' (.tup [.int (j : Nat), .int (L (p.take j) : Nat)]) D = _ := (upd_ne DT).trans hdg
        generalize upd Hg T' (.tup [.int (j : Nat), .int (L (p.take j) : Nat)]) = Hh at eh hdh ⊢
        have hfl : ((List.range j).filter fun c => decide (L (p.take c) < 101 ∧ c < p.length)).length ≤ j := by
          have := List.length_filter_le (fun c => decide (L (p.take c) < 101 ∧ c < p.length)) (List.range j)
          rwa [List.length_range] at this
        have hskip : ¬ (L (p.take j) < 101 ∧ j < p.length) → Evl.Ex Hf Hh ∧ Hh D = some (.lst (iV ((List.range (j + 1)).filter fun c => decide (L (p.take c) < 101 ∧ c < p.length)))) := fun hno => by
          refine ⟨eh, ?_⟩
          rw [List.range_succ, List.filter_append]
          simp [hno]
          simpa using hdh
        refine ⟨_, rfl, _, _, rfl, rfl, _, rfl, ite2 (fun h1 => ?_) (fun h1 => ?_)⟩
        · have h1 := of_decide_eq_true h1
          refine ⟨_, rfl, _, rfl, _, rfl, Evl.sz_of (by rw [tx_len]; omega), _, _, rfl, rfl, _, rfl, ite2 (fun h2 => ?_) (fun h2 => ?_)⟩
          · have h2 := of_decide_eq_true h2
            rw [tx_len] at h2
            have hyes : L (p.take j) < 101 ∧ j < p.length := ⟨by omega, by omega⟩
            refine ⟨_, rfl, _, hdh, Evl.sz_lt (by rw [iV_len]; omega), eh.mut hD, ?_⟩
            rw [upd_same, List.range_succ, List.filter_append]
            simp [hyes, iV]
          · refine hskip fun z => h2 (decide_eq_true ?_)
            rw [tx_len]
            omega
        · exact iteF (hskip fun z => h1 (decide_eq_true (by omega)))
      · rintro Hg ⟨eg, hdg⟩
        rw [hll] at hdg
        have jg := jf.ex eg
        have hmem : ∀ c, c ∈ (List.range (p.length + 1)).filter (fun c => decide (L (p.take c) < 101 ∧ c < p.length)) → L (p.take c) < 101 ∧ c < p.length := fun c hc => of_decide_eq_true (List.mem_filter.mp hc).2
        have h0 : (0 : Nat) ∈ (List.range (p.length + 1)).filter (fun c => decide (L (p.take c) < 101 ∧ c < p.length)) := by
          refine List.mem_filter.mpr ⟨List.mem_range.mpr (by omega), decide_eq_true ⟨?_, by omega⟩⟩
          rw [List.take_zero, L_nil]
          decide
        have hfl : ((List.range (p.length + 1)).filter (fun c => decide (L (p.take c) < 101 ∧ c < p.length))).length ≤ p.length + 1 := by
          have := List.length_filter_le (fun c => decide (L (p.take c) < 101 ∧ c < p.length)) (List.range (p.length + 1))
          rwa [List.length_range] at this
        refine ⟨_, rfl, _, rfl, _, rfl, _, rfl, sd, D, _, rfl, jg.st, SqL.of hdg, ?_, by rw [iV_len]; omega, fun x Hh hx hsh kh => ?_⟩
        · intro z
          have : (V.int ((0 : Nat) : Int)) ∈ iV ((List.range (p.length + 1)).filter (fun c => decide (L (p.take c) < 101 ∧ c < p.length))) := List.mem_map.mpr ⟨0, h0, rfl⟩
          rw [z] at this
          cases this
        obtain ⟨c, hc, rfl⟩ := List.mem_map.mp hx
        obtain ⟨hc1, hc2⟩ := hmem c hc
        have jh := jg.kp hsh kh
        refine ⟨sd, p, c, rfl, hsh, jh.tb, hp, hc2, by omega, fun Hi hsi ti ki => ⟨true, rfl, iteF ?_⟩⟩
        have ji := jh.kpn hsi ti ki
        refine ⟨_, rfl, _, rfl, sd, p, rfl, hsi, ti, hp, by omega, hp50, fun Hj hsj tj kj => ⟨true, rfl, iteF ?_⟩⟩
        exact ⟨ji.kpn hsj tj kj, _, _, _, _, rfl⟩
    · rintro σ Hc ⟨jc, x4, x5, x6, x7, rfl⟩
      -- three times a small one
      refine ⟨3, rfl, by decide, by decide, for_it walk_range (fun i2 σ H' => JJ K H' a sd la ns ls ∧ ∃ x4 x5 x6 x7, σ = [some (.ref a), some (.int ((i * 9 : Nat) : Int)), some (.ref sd), some (.ref la), x4, x5, x6, x7]) ?_ (fun _ _ _ _ _ => trivial) ?_ ?_⟩
      · exact ⟨jc, x4, x5, x6, x7, rfl⟩
      · rintro i2 y σ Hd He hi2 ⟨jd, x4, x5, x6, x7, rfl⟩ ⟨rfl, hv'⟩
        subst hv'
        refine ⟨_, rfl, _, rfl, _, rfl, sd, la, ls, 0, 6, rfl, jd.st, jd.lst, hlne, hl4, hlg, by decide, by decide, fun p He hp _ hp6 hse ke => ?_⟩
        have je := jd.kp hse ke
        refine ⟨sd, p, rfl, hse, je.tb, hp, hp6, fun Hf hsf tf kf => ⟨true, rfl, iteF ?_⟩⟩
        exact ⟨je.kpn hsf tf kf, _, _, _, _, rfl⟩
      · rintro σ Hd ⟨jd, x4, x5, x6, x7, rfl⟩
        exact ⟨jd.scr, jd.tb, _, _, _, _, _, _, _, rfl⟩
  · rintro σ Hb ⟨_, _, x1, x2, x3, x4, x5, x6, x7, rfl⟩
    exact k Hb
end
end Mw
end
section
set_option Elab.async false
set_option linter.all false
set_option maxRecDepth 1000000
set_option maxHeartbeats 0
/-! the head: facts by names, the run of the top -/
namespace Mw
open PySem PySem.Spec PyProof.Rows L2 Mir Mr
def d_is_whole : He.DefD := ⟨("is_whole", none), "is_whole", "is_whole", defArgs (top 17), defBody (top 17), defScope (top 17), [], [("least", .int 0), ("most", .non)]⟩
def d_is_letter : He.DefD := ⟨("is_letter", none), "is_letter", "is_letter", defArgs (top 18), defBody (top 18), defScope (top 18), [], []⟩
def d_odd_place : He.DefD := ⟨("odd_place", none), "odd_place", "odd_place", defArgs (top 19), defBody (top 19), defScope (top 19), [], []⟩
def d_need_presses : He.DefD := ⟨("need_presses", none), "need_presses", "need_presses", defArgs (top 20), defBody (top 20), defScope (top 20), [], []⟩
def d_need_text : He.DefD := ⟨("need_text", none), "need_text", "need_text", defArgs (top 21), defBody (top 21), defScope (top 21), [], []⟩
def d_need_letter : He.DefD := ⟨("need_letter", none), "need_letter", "need_letter", defArgs (top 32), defBody (top 32), defScope (top 32), [], []⟩
def d_need_within : He.DefD := ⟨("need_within", none), "need_within", "need_within", defArgs (top 37), defBody (top 37), defScope (top 37), [], []⟩
def d_need_cut : He.DefD := ⟨("need_cut", none), "need_cut", "need_cut", defArgs (top 40), defBody (top 40), defScope (top 40), [], []⟩
def d_lasts_of : He.DefD := ⟨("lasts_of", none), "lasts_of", "lasts_of", defArgs (top 24), defBody (top 24), defScope (top 24), [], []⟩
def d_lengths_of : He.DefD := ⟨("lengths_of", none), "lengths_of", "lengths_of", defArgs (top 25), defBody (top 25), defScope (top 25), [], []⟩
def d_length : He.DefD := ⟨("length", none), "length", "length", defArgs (top 26), defBody (top 26), defScope (top 26), [], []⟩
def d_growths : He.DefD := ⟨("growths", none), "growths", "growths", defArgs (top 27), defBody (top 27), defScope (top 27), [], []⟩
def d_letter_there : He.DefD := ⟨("letter_there", none), "letter_there", "letter_there", defArgs (top 28), defBody (top 28), defScope (top 28), [], []⟩
def d_letter_at : He.DefD := ⟨("letter_at", none), "letter_at", "letter_at", defArgs (top 29), defBody (top 29), defScope (top 29), [], []⟩
def d_window : He.DefD := ⟨("window", none), "window", "window", defArgs (top 30), defBody (top 30), defScope (top 30), [], []⟩
def d_mirror_text : He.DefD := ⟨("mirror_text", none), "mirror_text", "mirror_text", defArgs (top 31), defBody (top 31), defScope (top 31), [], []⟩
def d_added_by : He.DefD := ⟨("added_by", none), "added_by", "added_by", defArgs (top 38), defBody (top 38), defScope (top 38), [], []⟩
def d_block_length : He.DefD := ⟨("block_length", none), "block_length", "block_length", defArgs (top 39), defBody (top 39), defScope (top 39), [], []⟩
def d_digits_of : He.DefD := ⟨("digits_of", none), "digits_of", "digits_of", defArgs (top 41), defBody (top 41), defScope (top 41), [], []⟩
def d_value_of : He.DefD := ⟨("value_of", none), "value_of", "value_of", defArgs (top 42), defBody (top 42), defScope (top 42), [], []⟩
def d_block_of : He.DefD := ⟨("block_of", none), "block_of", "block_of", defArgs (top 43), defBody (top 43), defScope (top 43), [], []⟩
def d_block_start : He.DefD := ⟨("block_start", none), "block_start", "block_start", defArgs (top 44), defBody (top 44), defScope (top 44), [], []⟩
def d_Copies___init__ : He.DefD := ⟨("Copies", some "__init__"), "__init__", "Copies.__init__", defArgs (inClass (top 47) 0), defBody (inClass (top 47) 0), defScope (inClass (top 47) 0), [], []⟩
def d_Copies___len__ : He.DefD := ⟨("Copies", some "__len__"), "__len__", "Copies.__len__", defArgs (inClass (top 47) 1), defBody (inClass (top 47) 1), defScope (inClass (top 47) 1), [], []⟩
def d_Copies_size : He.DefD := ⟨("Copies", some "size"), "size", "Copies.size", defArgs (inClass (top 47) 2), defBody (inClass (top 47) 2), defScope (inClass (top 47) 2), [], []⟩
def d_Copies_head : He.DefD := ⟨("Copies", some "head"), "head", "Copies.head", defArgs (inClass (top 47) 5), defBody (inClass (top 47) 5), defScope (inClass (top 47) 5), [], []⟩
def d_Copies_midst : He.DefD := ⟨("Copies", some "midst"), "midst", "Copies.midst", defArgs (inClass (top 47) 6), defBody (inClass (top 47) 6), defScope (inClass (top 47) 6), [], []⟩
def d_need_piece : He.DefD := ⟨("need_piece", none), "need_piece", "need_piece", defArgs (top 48), defBody (top 48), defScope (top 48), [], []⟩
def d_found_home : He.DefD := ⟨("found_home", none), "found_home", "found_home", defArgs (top 49), defBody (top 49), defScope (top 49), [], []⟩
def d_home : He.DefD := ⟨("home", none), "home", "home", defArgs (top 50), defBody (top 50), defScope (top 50), [], []⟩
def d_how_often : He.DefD := ⟨("how_often", none), "how_often", "how_often", defArgs (top 51), defBody (top 51), defScope (top 51), [], []⟩
def d_place_at : He.DefD := ⟨("place_at", none), "place_at", "place_at", defArgs (top 52), defBody (top 52), defScope (top 52), [], []⟩
def d_stand_ahead : He.DefD := ⟨("stand_ahead", none), "stand_ahead", "stand_ahead", defArgs (top 53), defBody (top 53), defScope (top 53), [], []⟩
def d_Presser___init__ : He.DefD := ⟨("Presser", some "__init__"), "__init__", "Presser.__init__", defArgs (inClass (top 60) 0), defBody (inClass (top 60) 0), defScope (inClass (top 60) 0), [.str ""], []⟩
def d_Presser_presses_now : He.DefD := ⟨("Presser", some "presses_now"), "presses_now", "Presser.presses_now", defArgs (inClass (top 60) 6), defBody (inClass (top 60) 6), defScope (inClass (top 60) 6), [], []⟩
def d_Presser_size : He.DefD := ⟨("Presser", some "size"), "size", "Presser.size", defArgs (inClass (top 60) 8), defBody (inClass (top 60) 8), defScope (inClass (top 60) 8), [], []⟩
def d_Walker___init__ : He.DefD := ⟨("Walker", some "__init__"), "__init__", "Walker.__init__", defArgs (inClass (top 59) 0), defBody (inClass (top 59) 0), defScope (inClass (top 59) 0), [], []⟩
def d_Presser_walker : He.DefD := ⟨("Presser", some "walker"), "walker", "Presser.walker", defArgs (inClass (top 60) 9), defBody (inClass (top 60) 9), defScope (inClass (top 60) 9), [.int 0], []⟩
def d_Walker_own_presses : He.DefD := ⟨("Walker", some "own_presses"), "own_presses", "Walker.own_presses", defArgs (inClass (top 59) 1), defBody (inClass (top 59) 1), defScope (inClass (top 59) 1), [], []⟩
def d_Walker_stands : He.DefD := ⟨("Walker", some "stands"), "stands", "Walker.stands", defArgs (inClass (top 59) 2), defBody (inClass (top 59) 2), defScope (inClass (top 59) 2), [], []⟩
def d_Walker_go : He.DefD := ⟨("Walker", some "go"), "go", "Walker.go", defArgs (inClass (top 59) 3), defBody (inClass (top 59) 3), defScope (inClass (top 59) 3), [], []⟩
def d_Walker_reads : He.DefD := ⟨("Walker", some "reads"), "reads", "Walker.reads", defArgs (inClass (top 59) 5), defBody (inClass (top 59) 5), defScope (inClass (top 59) 5), [], []⟩
def d_Walker_gone_to : He.DefD := ⟨("Walker", some "gone_to"), "gone_to", "Walker.gone_to", defArgs (inClass (top 59) 8), defBody (inClass (top 59) 8), defScope (inClass (top 59) 8), [], []⟩
def d_Walker_next_of : He.DefD := ⟨("Walker", some "next_of"), "next_of", "Walker.next_of", defArgs (inClass (top 59) 9), defBody (inClass (top 59) 9), defScope (inClass (top 59) 9), [], []⟩
def d_Walker_last_of : He.DefD := ⟨("Walker", some "last_of"), "last_of", "Walker.last_of", defArgs (inClass (top 59) 10), defBody (inClass (top 59) 10), defScope (inClass (top 59) 10), [], []⟩
def d__law_mixed : He.DefD := ⟨("_law_mixed", none), "_law_mixed", "_law_mixed", defArgs (top 62), defBody (top 62), defScope (top 62), [], []⟩
def d__law_draw : He.DefD := ⟨("_law_draw", none), "_law_draw", "_law_draw", defArgs (top 64), defBody (top 64), defScope (top 64), [], []⟩
def d__law_of : He.DefD := ⟨("_law_of", none), "_law_of", "_law_of", defArgs (top 65), defBody (top 65), defScope (top 65), [], []⟩
def d__law_great : He.DefD := ⟨("_law_great", none), "_law_great", "_law_great", defArgs (top 68), defBody (top 68), defScope (top 68), [], []⟩
def d__law_state : He.DefD := ⟨("_law_state", none), "_law_state", "_law_state", defArgs (top 63), defBody (top 63), defScope (top 63), [], []⟩
def d__law_signs : He.DefD := ⟨("_law_signs", none), "_law_signs", "_law_signs", defArgs (top 66), defBody (top 66), defScope (top 66), [], []⟩
def d__law_row : He.DefD := ⟨("_law_row", none), "_law_row", "_law_row", defArgs (top 67), defBody (top 67), defScope (top 67), [], []⟩
def d__law_closed : He.DefD := ⟨("_law_closed", none), "_law_closed", "_law_closed", defArgs (top 69), defBody (top 69), defScope (top 69), [], []⟩
def d__law_sizes : He.DefD := ⟨("_law_sizes", none), "_law_sizes", "_law_sizes", defArgs (top 70), defBody (top 70), defScope (top 70), [], []⟩
def d__law_size : He.DefD := ⟨("_law_size", none), "_law_size", "_law_size", defArgs (top 71), defBody (top 71), defScope (top 71), [], []⟩
def d__law_read_right : He.DefD := ⟨("_law_read_right", none), "_law_read_right", "_law_read_right", defArgs (top 73), defBody (top 73), defScope (top 73), [], []⟩
def d__law_window_right : He.DefD := ⟨("_law_window_right", none), "_law_window_right", "_law_window_right", defArgs (top 74), defBody (top 74), defScope (top 74), [], []⟩
def d__law_walked_right : He.DefD := ⟨("_law_walked_right", none), "_law_walked_right", "_law_walked_right", defArgs (top 75), defBody (top 75), defScope (top 75), [], []⟩
def d_law : He.DefD := ⟨("law", none), "law", "law", defArgs (top 76), defBody (top 76), defScope (top 76), [], []⟩
def d_gone : He.DefD := ⟨("_law_gone", none), "_law_gone", "_law_gone", defArgs (top 72), defBody (top 72), defScope (top 72), [], []⟩
def fn0 : List He.DefD := [d_is_whole, d_is_letter, d_odd_place, d_need_presses, d_need_text, d_need_letter, d_need_within, d_need_cut, d_lasts_of, d_lengths_of, d_length, d_growths, d_letter_there, d_letter_at, d_window, d_mirror_text, d_added_by, d_block_length, d_digits_of, d_value_of, d_block_of, d_block_start, d_Copies___init__, d_Copies___len__, d_Copies_size, d_Copies_head, d_Copies_midst, d_need_piece, d_found_home, d_home]
def fn1 : List He.DefD := [d_how_often, d_place_at, d_stand_ahead, d_Presser___init__, d_Presser_presses_now, d_Presser_size, d_Walker___init__, d_Presser_walker, d_Walker_own_presses, d_Walker_stands, d_Walker_go, d_Walker_reads, d_Walker_gone_to, d_Walker_next_of, d_Walker_last_of, d__law_mixed, d__law_draw, d__law_of, d__law_great, d__law_state, d__law_signs, d__law_row, d__law_closed, d__law_sizes, d__law_size, d__law_read_right, d__law_window_right, d__law_walked_right, d_law, d_gone]
def fnA : List He.DefD := fn0 ++ fn1
def fa0 : List He.Fa := [.glo "is_whole", .glo "is_letter", .glo "odd_place", .glo "need_presses", .glo "need_text", .glo "need_letter", .glo "need_within", .glo "need_cut", .glo "lasts_of", .glo "lengths_of", .glo "length", .glo "growths", .glo "letter_there", .glo "letter_at", .glo "window", .glo "mirror_text", .glo "added_by", .glo "block_length", .glo "digits_of", .glo "value_of", .glo "block_of", .glo "block_start", .glo "need_piece", .glo "found_home", .glo "home", .glo "how_often", .glo "place_at", .glo "stand_ahead", .glo "_law_mixed", .glo "_law_draw"]
def fa1 : List He.Fa := [.glo "_law_of", .glo "_law_great", .glo "_law_state", .glo "_law_signs", .glo "_law_row", .glo "_law_closed", .glo "_law_sizes", .glo "_law_size", .glo "_law_read_right", .glo "_law_window_right", .glo "_law_walked_right", .glo "law", .glo "Copies", .glo "Walker", .glo "Presser", .glo "Gone", .glo "_law_gone", .free "len", .free "range", .free "enumerate", .free "zip", .free "isinstance", .free "min", .free "max", .free "sum", .free "int", .free "tuple", .free "bool", .free "str", .int "MOST_TEXT" 20000]
def fa2 : List He.Fa := [.int "MOST_PRESSES" 200, .int "MOST_WINDOW" 1000, .int "MOST_PIECE" 200, .str "LETTERS" "abcdefghijklmnopqrstuvwxyz", .cls "Copies", .cls "Walker", .cls "Presser", .noat "Copies" "copy_presses", .noat "Copies" "copy_lengths", .noat "Copies" "copy_shared", .noat "Walker" "own_presser", .noat "Walker" "own_stand", .noat "Presser" "row_now", .noat "Presser" "rows_put", .noat "Presser" "own_walkers", .meth "Copies" "__len__", .meth "Copies" "size", .meth "Copies" "head", .meth "Copies" "midst", .meth "Presser" "presses_now", .meth "Presser" "size", .meth "Presser" "walker", .meth "Walker" "own_presses", .meth "Walker" "stands", .meth "Walker" "go", .meth "Walker" "reads", .meth "Walker" "gone_to", .meth "Walker" "next_of", .meth "Walker" "last_of", .mkr "Copies"]
def fa3 : List He.Fa := [.mkr "Walker", .mkr "Presser"]
def faA : List He.Fa := fa0 ++ fa1 ++ fa2 ++ fa3
def tfA : List He.Defn := [("_law_read_right", none), ("_law_window_right", none), ("_law_walked_right", none)]
def exA (K : Frag) : Bool := PySem.W.excIn K (cGon K) [.type "LookupError", .type "Exception", .type "BaseException", .type "object"] "LookupError.__new__" && (PySem.W.keepIn K (.ref (cGon K)) && (decide (PySem.W.subIn K (.ref (cGon K)) (.type "BaseException") = some true) && (decide (PySem.W.typeIn K (.ref (cGon K)) = some (.type "type")) &&
  (decide (PySem.W.exmOne K (.ref (cGon K)) (.ref (cGon K)) = some true) && (decide (cWal K ≠ cPre K) && (decide (tabR K ≠ tabW K) && (decide (tabR K ≠ tabK K) && decide (tabW K ≠ tabK K))))))))
def loose0 : List PySem.Str := ["_wall", "MirrorError", "BadPresses", "BadText", "Lack", "NoSuch", "NoPiece", "Gone", "Cant", "TooLong", "BadKind", "BadNumber", "MOST_TEXT", "MOST_PRESSES", "LETTERS", "is_whole", "is_letter", "odd_place", "need_presses", "need_text", "MOST_WINDOW", "lasts_of", "lengths_of", "length", "growths", "letter_there", "letter_at", "window", "mirror_text", "need_letter"]
def loose1 : List PySem.Str := ["counts_by_beginnings", "ahead_there", "how_many_ahead", "need_within", "added_by", "block_length", "need_cut", "digits_of", "value_of", "block_of", "block_start", "MOST_PIECE", "Copies", "need_piece", "found_home", "home", "how_often", "place_at", "stand_ahead", "BEHIND", "AHEAD", "carried", "part_at", "Walker", "Presser", "_law_mixed", "_law_state", "_law_draw", "_law_of", "_law_signs"]
def loose2 : List PySem.Str := ["_law_row", "_law_great", "_law_closed", "_law_sizes", "_law_size", "_law_gone", "_law_read_right", "_law_window_right", "_law_walked_right"]
def looseA : List PySem.Str := loose0 ++ loose1 ++ loose2
abbrev RR0 : PySem.W.OpenRow := PySem.W.OpenLaw.row PySem.Challenge.rw_mirrorpress_k55_whole_read_by_walking
abbrev hkA : PySem.W.Hook := He.hookX 4 faA fnA [] tfA exA
def obA (s : PySem.W.SharedT) : He.AlX := He.obsX 4 faA fnA [] tfA exA (HandSHeadRun.getT s)
theorem obA_eq (s : PySem.W.SharedT) : obA s = hkA.obs s.abs := He.obsX_eq (HandSHeadRun.getT_eq s)
theorem runA (w : World) : HandSHeadRun.RunEq RR0 (PySem.W.view RR0.prog [76]) hkA obA 20000 looseA w := by
  intro os
  kernel_rfl
end Mw
end
section
set_option Elab.async false
set_option linter.all false
set_option maxRecDepth 1000000
set_option maxHeartbeats 0
/-! the defs joined -/
namespace Mw
open PySem PySem.Spec PyProof.Rows L2 Mir Mr
section
variable {P : Program} {w : World} {K : Frag} {h : Heap} {mg : Str → Option Value} {base : Heap}
theorem j_Tp (X : K.In h) (G : h.Ns mainGlobals mg) (c : He.SaysD faA fnA K) : Tp K mg :=
  ⟨He.free_ok X G (c.fact 47 (f := .free "len") rfl),
   He.free_ok X G (c.fact 48 (f := .free "range") rfl),
   He.free_ok X G (c.fact 49 (f := .free "enumerate") rfl),
   He.free_ok X G (c.fact 50 (f := .free "zip") rfl),
   He.free_ok X G (c.fact 51 (f := .free "isinstance") rfl),
   He.free_ok X G (c.fact 52 (f := .free "min") rfl),
   He.free_ok X G (c.fact 53 (f := .free "max") rfl),
   He.free_ok X G (c.fact 54 (f := .free "sum") rfl),
   He.free_ok X G (c.fact 55 (f := .free "int") rfl),
   He.free_ok X G (c.fact 56 (f := .free "tuple") rfl),
   He.free_ok X G (c.fact 57 (f := .free "bool") rfl),
   He.free_ok X G (c.fact 58 (f := .free "str") rfl),
   He.int_ok X G (c.fact 59 (f := .int "MOST_TEXT" 20000) rfl),
   He.int_ok X G (c.fact 60 (f := .int "MOST_PRESSES" 200) rfl),
   He.int_ok X G (c.fact 61 (f := .int "MOST_WINDOW" 1000) rfl),
   He.int_ok X G (c.fact 62 (f := .int "MOST_PIECE" 200) rfl),
   He.str_ok X G (c.fact 63 (f := .str "LETTERS" "abcdefghijklmnopqrstuvwxyz") rfl),
   He.cls_ok (c.fact 64 (f := .cls "Copies") rfl),
   He.cls_ok (c.fact 65 (f := .cls "Walker") rfl),
   He.cls_ok (c.fact 66 (f := .cls "Presser") rfl),
   He.noat_ok (c.fact 67 (f := .noat "Copies" "copy_presses") rfl),
   He.noat_ok (c.fact 68 (f := .noat "Copies" "copy_lengths") rfl),
   He.noat_ok (c.fact 69 (f := .noat "Copies" "copy_shared") rfl),
   He.noat_ok (c.fact 70 (f := .noat "Walker" "own_presser") rfl),
   He.noat_ok (c.fact 71 (f := .noat "Walker" "own_stand") rfl),
   He.noat_ok (c.fact 72 (f := .noat "Presser" "row_now") rfl),
   He.noat_ok (c.fact 73 (f := .noat "Presser" "rows_put") rfl),
   He.noat_ok (c.fact 74 (f := .noat "Presser" "own_walkers") rfl)⟩
theorem j_Tg (X : K.In h) (G : h.Ns mainGlobals mg) (c : He.SaysD faA fnA K) (e : exA K = true) : Tg K mg ∧ cWal K ≠ cPre K ∧ Dist K := by
  obtain ⟨h1, e⟩ := He.ba e
  obtain ⟨h2, e⟩ := He.ba e
  obtain ⟨h3, e⟩ := He.ba e
  obtain ⟨h4, e⟩ := He.ba e
  obtain ⟨h5, e⟩ := He.ba e
  obtain ⟨h6, e⟩ := He.ba e
  obtain ⟨h7, e⟩ := He.ba e
  obtain ⟨h8, h9⟩ := He.ba e
  exact ⟨⟨He.glo_ok X G (c.fact 45 (f := .glo "Gone") rfl), h1, h2, of_decide_eq_true h3, of_decide_eq_true h4, of_decide_eq_true h5⟩, of_decide_eq_true h6, ⟨of_decide_eq_true h7, of_decide_eq_true h8, of_decide_eq_true h9⟩⟩
theorem j_gone (X : K.In h) (G : h.Ns mainGlobals mg) (c : He.SaysD faA fnA K) : GoneDef K mg := by
  obtain ⟨fd, F⟩ := c.def_ 59 (d := d_gone) rfl
  exact ⟨_, fd, F, He.glo_ok X G (c.fact 46 (f := .glo "_law_gone") rfl), F.bindsN fun _ _ _ _ _ _ us hl => match us, hl with | [_], _ => rfl⟩
theorem j_whole (X : K.In h) (G : h.Ns mainGlobals mg) (c : He.SaysD faA fnA K) (T : Tp K mg) : H_is_whole P w K mg base := by
  obtain ⟨fd, F⟩ := c.def_ 0 (d := d_is_whole) rfl
  have F0 : FunD K "is_whole" "is_whole" (defArgs (top 17)) (defBody (top 17)) (defScope (top 17)) [] [("least", .int 0), ("most", .non)] (He.fAd K ("is_whole", none)) fd := F
  refine ⟨_, fd, ok_is_whole F0 T, He.glo_ok X G (c.fact 0 (f := .glo "is_whole") rfl), F.kp, ?_⟩
  obtain ⟨oc, od, dV, kV, doc, pm, an, cdv, ct, osl, rfl, lk, hcd, hD, hK⟩ := F0.ex
  rcases hD with ⟨_, rfl⟩ | ⟨e, _⟩
  · rcases hK with e | ⟨D, rfl, hq⟩
    · cases e
    · obtain ⟨u, hu, t, rfl⟩ := hq ("least", .int 0) (by simp)
      refine ⟨_, t, rfl, ⟨fun s us ws X l1 l2 => ?_, fun r1 r2 => r1.append (.cons ⟨_, rfl⟩ r2)⟩⟩
      obtain ⟨x, rfl⟩ : ∃ x, us = [x] := by
        match us, l1 with
        | [x], _ => exact ⟨x, rfl⟩
      obtain ⟨y, rfl⟩ : ∃ y, ws = [y] := by
        match ws, l2 with
        | [y], _ => exact ⟨y, rfl⟩
      exact BindsTo.of_looks fun M => KwChain.looks (l := [("least", Value.int 0 t)]) X (fun q hq' => by
        rcases List.mem_singleton.mp hq' with rfl
        exact hu) ⟨_, _, _, _, _, _, rfl, rfl, rfl⟩
  · exact absurd rfl e
theorem j_is_letter (X : K.In h) (G : h.Ns mainGlobals mg) (c : He.SaysD faA fnA K) (T : Tp K mg)   : H_is_letter P w K mg base := by
  obtain ⟨fd, F⟩ := c.def_ 1 (d := d_is_letter) rfl
  exact ⟨_, fd, ok_is_letter F T  , He.glo_ok X G (c.fact 1 (f := .glo "is_letter") rfl), F.kp, F.bindsN fun _ _ _ _ _ _ us hl => match us, hl with | [_], _ => rfl⟩
theorem j_odd_place (X : K.In h) (G : h.Ns mainGlobals mg) (c : He.SaysD faA fnA K) (T : Tp K mg)   : H_odd_place P w K mg base := by
  obtain ⟨fd, F⟩ := c.def_ 2 (d := d_odd_place) rfl
  exact ⟨_, fd, ok_odd_place F T  , He.glo_ok X G (c.fact 2 (f := .glo "odd_place") rfl), F.kp, F.bindsN fun _ _ _ _ _ _ us hl => match us, hl with | [_], _ => rfl⟩
theorem j_need_presses (X : K.In h) (G : h.Ns mainGlobals mg) (c : He.SaysD faA fnA K) (T : Tp K mg)  (h_odd_place : H_odd_place P w K mg base) : H_need_presses P w K mg base := by
  obtain ⟨fd, F⟩ := c.def_ 3 (d := d_need_presses) rfl
  exact ⟨_, fd, ok_need_presses F T  h_odd_place, He.glo_ok X G (c.fact 3 (f := .glo "need_presses") rfl), F.kp, F.bindsN fun _ _ _ _ _ _ us hl => match us, hl with | [_], _ => rfl⟩
theorem j_need_text (X : K.In h) (G : h.Ns mainGlobals mg) (c : He.SaysD faA fnA K) (T : Tp K mg)  (h_odd_place : H_odd_place P w K mg base) : H_need_text P w K mg base := by
  obtain ⟨fd, F⟩ := c.def_ 4 (d := d_need_text) rfl
  exact ⟨_, fd, ok_need_text F T  h_odd_place, He.glo_ok X G (c.fact 4 (f := .glo "need_text") rfl), F.kp, F.bindsN fun _ _ _ _ _ _ us hl => match us, hl with | [_], _ => rfl⟩
theorem j_need_letter (X : K.In h) (G : h.Ns mainGlobals mg) (c : He.SaysD faA fnA K) (T : Tp K mg)  (h_is_letter : H_is_letter P w K mg base) : H_need_letter P w K mg base := by
  obtain ⟨fd, F⟩ := c.def_ 5 (d := d_need_letter) rfl
  exact ⟨_, fd, ok_need_letter F T  h_is_letter, He.glo_ok X G (c.fact 5 (f := .glo "need_letter") rfl), F.kp, F.bindsN fun _ _ _ _ _ _ us hl => match us, hl with | [_], _ => rfl⟩
theorem j_need_within (X : K.In h) (G : h.Ns mainGlobals mg) (c : He.SaysD faA fnA K) (T : Tp K mg)  (h_is_whole : H_is_whole P w K mg base) : H_need_within P w K mg base := by
  obtain ⟨fd, F⟩ := c.def_ 6 (d := d_need_within) rfl
  exact ⟨_, fd, ok_need_within F T  h_is_whole, He.glo_ok X G (c.fact 6 (f := .glo "need_within") rfl), F.kp, F.bindsN fun _ _ _ _ _ _ us hl => match us, hl with | [_, _], _ => rfl⟩
theorem j_need_cut (X : K.In h) (G : h.Ns mainGlobals mg) (c : He.SaysD faA fnA K) (T : Tp K mg)  (h_need_presses : H_need_presses P w K mg base) (h_need_within : H_need_within P w K mg base) : H_need_cut P w K mg base := by
  obtain ⟨fd, F⟩ := c.def_ 7 (d := d_need_cut) rfl
  exact ⟨_, fd, ok_need_cut F T  h_need_presses h_need_within, He.glo_ok X G (c.fact 7 (f := .glo "need_cut") rfl), F.kp, F.bindsN fun _ _ _ _ _ _ us hl => match us, hl with | [_, _], _ => rfl⟩
theorem j_lasts_of (X : K.In h) (G : h.Ns mainGlobals mg) (c : He.SaysD faA fnA K) (T : Tp K mg)   : H_lasts_of P w K mg base := by
  obtain ⟨fd, F⟩ := c.def_ 8 (d := d_lasts_of) rfl
  exact ⟨_, fd, ok_lasts_of F T  , He.glo_ok X G (c.fact 8 (f := .glo "lasts_of") rfl), F.kp, F.bindsN fun _ _ _ _ _ _ us hl => match us, hl with | [_], _ => rfl⟩
theorem j_lengths_of (X : K.In h) (G : h.Ns mainGlobals mg) (c : He.SaysD faA fnA K) (T : Tp K mg)  (h_lasts_of : H_lasts_of P w K mg base) : H_lengths_of P w K mg base := by
  obtain ⟨fd, F⟩ := c.def_ 9 (d := d_lengths_of) rfl
  exact ⟨_, fd, ok_lengths_of F T  h_lasts_of, He.glo_ok X G (c.fact 9 (f := .glo "lengths_of") rfl), F.kp, F.bindsN fun _ _ _ _ _ _ us hl => match us, hl with | [_], _ => rfl⟩
theorem j_length (X : K.In h) (G : h.Ns mainGlobals mg) (c : He.SaysD faA fnA K) (T : Tp K mg)  (h_need_presses : H_need_presses P w K mg base) (h_lengths_of : H_lengths_of P w K mg base) : H_length P w K mg base := by
  obtain ⟨fd, F⟩ := c.def_ 10 (d := d_length) rfl
  exact ⟨_, fd, ok_length F T  h_need_presses h_lengths_of, He.glo_ok X G (c.fact 10 (f := .glo "length") rfl), F.kp, F.bindsN fun _ _ _ _ _ _ us hl => match us, hl with | [_], _ => rfl⟩
theorem j_growths (X : K.In h) (G : h.Ns mainGlobals mg) (c : He.SaysD faA fnA K) (T : Tp K mg)  (h_need_presses : H_need_presses P w K mg base) (h_lengths_of : H_lengths_of P w K mg base) : H_growths P w K mg base := by
  obtain ⟨fd, F⟩ := c.def_ 11 (d := d_growths) rfl
  exact ⟨_, fd, ok_growths F T  h_need_presses h_lengths_of, He.glo_ok X G (c.fact 11 (f := .glo "growths") rfl), F.kp, F.bindsN fun _ _ _ _ _ _ us hl => match us, hl with | [_], _ => rfl⟩
theorem j_letter_there (X : K.In h) (G : h.Ns mainGlobals mg) (c : He.SaysD faA fnA K) (T : Tp K mg)   : H_letter_there P w K mg base := by
  obtain ⟨fd, F⟩ := c.def_ 12 (d := d_letter_there) rfl
  exact ⟨_, fd, ok_letter_there F T  , He.glo_ok X G (c.fact 12 (f := .glo "letter_there") rfl), F.kp, F.bindsN fun _ _ _ _ _ _ us hl => match us, hl with | [_, _, _], _ => rfl⟩
theorem j_letter_at (X : K.In h) (G : h.Ns mainGlobals mg) (c : He.SaysD faA fnA K) (T : Tp K mg)  (h_need_presses : H_need_presses P w K mg base) (h_lengths_of : H_lengths_of P w K mg base) (h_is_whole : H_is_whole P w K mg base) (h_letter_there : H_letter_there P w K mg base) : H_letter_at P w K mg base := by
  obtain ⟨fd, F⟩ := c.def_ 13 (d := d_letter_at) rfl
  exact ⟨_, fd, ok_letter_at F T  h_need_presses h_lengths_of h_is_whole h_letter_there, He.glo_ok X G (c.fact 13 (f := .glo "letter_at") rfl), F.kp, F.bindsN fun _ _ _ _ _ _ us hl => match us, hl with | [_, _], _ => rfl⟩
theorem j_window (X : K.In h) (G : h.Ns mainGlobals mg) (c : He.SaysD faA fnA K) (T : Tp K mg)  (h_need_presses : H_need_presses P w K mg base) (h_lengths_of : H_lengths_of P w K mg base) (h_is_whole : H_is_whole P w K mg base) (h_letter_there : H_letter_there P w K mg base) : H_window P w K mg base := by
  obtain ⟨fd, F⟩ := c.def_ 14 (d := d_window) rfl
  exact ⟨_, fd, ok_window F T  h_need_presses h_lengths_of h_is_whole h_letter_there, He.glo_ok X G (c.fact 14 (f := .glo "window") rfl), F.kp, F.bindsN fun _ _ _ _ _ _ us hl => match us, hl with | [_, _, _], _ => rfl⟩
theorem j_mirror_text (X : K.In h) (G : h.Ns mainGlobals mg) (c : He.SaysD faA fnA K) (T : Tp K mg)  (h_need_presses : H_need_presses P w K mg base) (h_lengths_of : H_lengths_of P w K mg base) (h_lasts_of : H_lasts_of P w K mg base) : H_mirror_text P w K mg base := by
  obtain ⟨fd, F⟩ := c.def_ 15 (d := d_mirror_text) rfl
  exact ⟨_, fd, ok_mirror_text F T  h_need_presses h_lengths_of h_lasts_of, He.glo_ok X G (c.fact 15 (f := .glo "mirror_text") rfl), F.kp, F.bindsN fun _ _ _ _ _ _ us hl => match us, hl with | [_], _ => rfl⟩
theorem j_added_by (X : K.In h) (G : h.Ns mainGlobals mg) (c : He.SaysD faA fnA K) (T : Tp K mg)  (h_growths : H_growths P w K mg base) : H_added_by P w K mg base := by
  obtain ⟨fd, F⟩ := c.def_ 16 (d := d_added_by) rfl
  exact ⟨_, fd, ok_added_by F T  h_growths, He.glo_ok X G (c.fact 16 (f := .glo "added_by") rfl), F.kp, F.bindsN fun _ _ _ _ _ _ us hl => match us, hl with | [_, _], _ => rfl⟩
theorem j_block_length (X : K.In h) (G : h.Ns mainGlobals mg) (c : He.SaysD faA fnA K) (T : Tp K mg)  (h_need_presses : H_need_presses P w K mg base) (h_need_letter : H_need_letter P w K mg base) (h_added_by : H_added_by P w K mg base) : H_block_length P w K mg base := by
  obtain ⟨fd, F⟩ := c.def_ 17 (d := d_block_length) rfl
  exact ⟨_, fd, ok_block_length F T  h_need_presses h_need_letter h_added_by, He.glo_ok X G (c.fact 17 (f := .glo "block_length") rfl), F.kp, F.bindsN fun _ _ _ _ _ _ us hl => match us, hl with | [_, _], _ => rfl⟩
theorem j_digits_of (X : K.In h) (G : h.Ns mainGlobals mg) (c : He.SaysD faA fnA K) (T : Tp K mg)   : H_digits_of P w K mg base := by
  obtain ⟨fd, F⟩ := c.def_ 18 (d := d_digits_of) rfl
  exact ⟨_, fd, ok_digits_of F T  , He.glo_ok X G (c.fact 18 (f := .glo "digits_of") rfl), F.kp, F.bindsN fun _ _ _ _ _ _ us hl => match us, hl with | [_, _], _ => rfl⟩
theorem j_value_of (X : K.In h) (G : h.Ns mainGlobals mg) (c : He.SaysD faA fnA K) (T : Tp K mg)   : H_value_of P w K mg base := by
  obtain ⟨fd, F⟩ := c.def_ 19 (d := d_value_of) rfl
  exact ⟨_, fd, ok_value_of F T  , He.glo_ok X G (c.fact 19 (f := .glo "value_of") rfl), F.kp, F.bindsN fun _ _ _ _ _ _ us hl => match us, hl with | [_, _], _ => rfl⟩
theorem j_block_of (X : K.In h) (G : h.Ns mainGlobals mg) (c : He.SaysD faA fnA K) (T : Tp K mg)  (h_need_cut : H_need_cut P w K mg base) (h_growths : H_growths P w K mg base) (h_need_within : H_need_within P w K mg base) (h_digits_of : H_digits_of P w K mg base) (h_value_of : H_value_of P w K mg base) : H_block_of P w K mg base := by
  obtain ⟨fd, F⟩ := c.def_ 20 (d := d_block_of) rfl
  exact ⟨_, fd, ok_block_of F T  h_need_cut h_growths h_need_within h_digits_of h_value_of, He.glo_ok X G (c.fact 20 (f := .glo "block_of") rfl), F.kp, F.bindsN fun _ _ _ _ _ _ us hl => match us, hl with | [_, _, _], _ => rfl⟩
theorem j_block_start (X : K.In h) (G : h.Ns mainGlobals mg) (c : He.SaysD faA fnA K) (T : Tp K mg)  (h_need_cut : H_need_cut P w K mg base) (h_growths : H_growths P w K mg base) (h_need_within : H_need_within P w K mg base) (h_value_of : H_value_of P w K mg base) (h_digits_of : H_digits_of P w K mg base) : H_block_start P w K mg base := by
  obtain ⟨fd, F⟩ := c.def_ 21 (d := d_block_start) rfl
  exact ⟨_, fd, ok_block_start F T  h_need_cut h_growths h_need_within h_value_of h_digits_of, He.glo_ok X G (c.fact 21 (f := .glo "block_start") rfl), F.kp, F.bindsN fun _ _ _ _ _ _ us hl => match us, hl with | [_, _, _], _ => rfl⟩
theorem j_Copies___init__ (X : K.In h) (G : h.Ns mainGlobals mg) (c : He.SaysD faA fnA K) (T : Tp K mg)  (h_need_presses : H_need_presses P w K mg base) : H_Copies___init__ P w K mg base := by
  obtain ⟨fd, F⟩ := c.def_ 22 (d := d_Copies___init__) rfl
  exact ⟨_, fd, ok_Copies___init__ F T  h_need_presses, He.mkr_ok (c.fact 89 (f := .mkr "Copies") rfl), He.glo_ok X G (c.fact 42 (f := .glo "Copies") rfl), F.bindsN fun _ _ _ _ _ _ us hl => match us, hl with | [_, _], _ => rfl⟩
theorem j_Copies___len__ (X : K.In h) (G : h.Ns mainGlobals mg) (c : He.SaysD faA fnA K) (T : Tp K mg)   : H_Copies___len__ P w K mg base := by
  obtain ⟨fd, F⟩ := c.def_ 23 (d := d_Copies___len__) rfl
  exact ⟨He.cls_ok (c.fact 64 (f := .cls "Copies") rfl), _, fd, ok_Copies___len__ F T  , He.meth_ok (c.fact 75 (f := .meth "Copies" "__len__") rfl), F.bindsN fun _ _ _ _ _ _ us hl => match us, hl with | [_], _ => rfl⟩
theorem j_Copies_size (X : K.In h) (G : h.Ns mainGlobals mg) (c : He.SaysD faA fnA K) (T : Tp K mg)   : H_Copies_size P w K mg base := by
  obtain ⟨fd, F⟩ := c.def_ 24 (d := d_Copies_size) rfl
  exact ⟨He.cls_ok (c.fact 64 (f := .cls "Copies") rfl), _, fd, ok_Copies_size F T  , He.meth_ok (c.fact 76 (f := .meth "Copies" "size") rfl), F.bindsN fun _ _ _ _ _ _ us hl => match us, hl with | [_, _], _ => rfl⟩
theorem j_Copies_head (X : K.In h) (G : h.Ns mainGlobals mg) (c : He.SaysD faA fnA K) (T : Tp K mg)   : H_Copies_head P w K mg base := by
  obtain ⟨fd, F⟩ := c.def_ 25 (d := d_Copies_head) rfl
  exact ⟨He.cls_ok (c.fact 64 (f := .cls "Copies") rfl), _, fd, ok_Copies_head F T  , He.meth_ok (c.fact 77 (f := .meth "Copies" "head") rfl), F.bindsN fun _ _ _ _ _ _ us hl => match us, hl with | [_, _], _ => rfl⟩
theorem j_Copies_midst (X : K.In h) (G : h.Ns mainGlobals mg) (c : He.SaysD faA fnA K) (T : Tp K mg)  (h_Copies_size : H_Copies_size P w K mg base) : H_Copies_midst P w K mg base := by
  obtain ⟨fd, F⟩ := c.def_ 26 (d := d_Copies_midst) rfl
  exact ⟨He.cls_ok (c.fact 64 (f := .cls "Copies") rfl), _, fd, ok_Copies_midst F T  h_Copies_size, He.meth_ok (c.fact 78 (f := .meth "Copies" "midst") rfl), F.bindsN fun _ _ _ _ _ _ us hl => match us, hl with | [_, _, _, _], _ => rfl⟩
theorem j_need_piece (X : K.In h) (G : h.Ns mainGlobals mg) (c : He.SaysD faA fnA K) (T : Tp K mg)  (h_need_text : H_need_text P w K mg base) : H_need_piece P w K mg base := by
  obtain ⟨fd, F⟩ := c.def_ 27 (d := d_need_piece) rfl
  exact ⟨_, fd, ok_need_piece F T  h_need_text, He.glo_ok X G (c.fact 22 (f := .glo "need_piece") rfl), F.kp, F.bindsN fun _ _ _ _ _ _ us hl => match us, hl with | [_], _ => rfl⟩
theorem j_found_home (X : K.In h) (G : h.Ns mainGlobals mg) (c : He.SaysD faA fnA K) (T : Tp K mg)  (h_Copies_head : H_Copies_head P w K mg base) (h_Copies___len__ : H_Copies___len__ P w K mg base) (h_Copies_midst : H_Copies_midst P w K mg base) : H_found_home P w K mg base := by
  obtain ⟨fd, F⟩ := c.def_ 28 (d := d_found_home) rfl
  exact ⟨_, fd, ok_found_home F T  h_Copies_head h_Copies___len__ h_Copies_midst, He.glo_ok X G (c.fact 23 (f := .glo "found_home") rfl), F.kp, F.bindsN fun _ _ _ _ _ _ us hl => match us, hl with | [_, _], _ => rfl⟩
theorem j_home (X : K.In h) (G : h.Ns mainGlobals mg) (c : He.SaysD faA fnA K) (T : Tp K mg)  (h_Copies___init__ : H_Copies___init__ P w K mg base) (h_need_piece : H_need_piece P w K mg base) (h_found_home : H_found_home P w K mg base) : H_home P w K mg base := by
  obtain ⟨fd, F⟩ := c.def_ 29 (d := d_home) rfl
  exact ⟨_, fd, ok_home F T  h_Copies___init__ h_need_piece h_found_home, He.glo_ok X G (c.fact 24 (f := .glo "home") rfl), F.kp, F.bindsN fun _ _ _ _ _ _ us hl => match us, hl with | [_, _], _ => rfl⟩
theorem j_how_often (X : K.In h) (G : h.Ns mainGlobals mg) (c : He.SaysD faA fnA K) (T : Tp K mg)  (h_Copies___init__ : H_Copies___init__ P w K mg base) (h_need_piece : H_need_piece P w K mg base) (h_found_home : H_found_home P w K mg base) (h_length : H_length P w K mg base) : H_how_often P w K mg base := by
  obtain ⟨fd, F⟩ := c.def_ 30 (d := d_how_often) rfl
  exact ⟨_, fd, ok_how_often F T  h_Copies___init__ h_need_piece h_found_home h_length, He.glo_ok X G (c.fact 25 (f := .glo "how_often") rfl), F.kp, F.bindsN fun _ _ _ _ _ _ us hl => match us, hl with | [_, _], _ => rfl⟩
theorem j_place_at (X : K.In h) (G : h.Ns mainGlobals mg) (c : He.SaysD faA fnA K) (T : Tp K mg)  (h_home : H_home P w K mg base) (h_is_whole : H_is_whole P w K mg base) (h_length : H_length P w K mg base) (h_block_start : H_block_start P w K mg base) : H_place_at P w K mg base := by
  obtain ⟨fd, F⟩ := c.def_ 31 (d := d_place_at) rfl
  exact ⟨_, fd, ok_place_at F T  h_home h_is_whole h_length h_block_start, He.glo_ok X G (c.fact 26 (f := .glo "place_at") rfl), F.kp, F.bindsN fun _ _ _ _ _ _ us hl => match us, hl with | [_, _, _], _ => rfl⟩
theorem j_stand_ahead (X : K.In h) (G : h.Ns mainGlobals mg) (c : He.SaysD faA fnA K) (T : Tp K mg)  (h_home : H_home P w K mg base) (h_length : H_length P w K mg base) (h_is_whole : H_is_whole P w K mg base) (h_block_of : H_block_of P w K mg base) : H_stand_ahead P w K mg base := by
  obtain ⟨fd, F⟩ := c.def_ 32 (d := d_stand_ahead) rfl
  exact ⟨_, fd, ok_stand_ahead F T  h_home h_length h_is_whole h_block_of, He.glo_ok X G (c.fact 27 (f := .glo "stand_ahead") rfl), F.kp, F.bindsN fun _ _ _ _ _ _ us hl => match us, hl with | [_, _, _], _ => rfl⟩
theorem j_Presser___init__ (X : K.In h) (G : h.Ns mainGlobals mg) (c : He.SaysD faA fnA K) (T : Tp K mg)  (h_need_presses : H_need_presses P w K mg base) : H_Presser___init__ P w K mg base := by
  obtain ⟨fd, F⟩ := c.def_ 33 (d := d_Presser___init__) rfl
  obtain ⟨ds, hv, hb⟩ := F.binds1 (ps := ["self", "presses"]) 2 1 (by intro z; cases z) rfl fun _ _ _ _ _ _ _ us its h1 h2 => match us, h1, its, h2 with | [_, _], _, [_], _ => ⟨_, rfl, rfl⟩
  cases hv
  exact ⟨_, fd, ok_Presser___init__ F T  h_need_presses, He.mkr_ok (c.fact 91 (f := .mkr "Presser") rfl), He.glo_ok X G (c.fact 44 (f := .glo "Presser") rfl), hb⟩
theorem j_Presser_presses_now (X : K.In h) (G : h.Ns mainGlobals mg) (c : He.SaysD faA fnA K) (T : Tp K mg)   : H_Presser_presses_now P w K mg base := by
  obtain ⟨fd, F⟩ := c.def_ 34 (d := d_Presser_presses_now) rfl
  exact ⟨He.cls_ok (c.fact 66 (f := .cls "Presser") rfl), _, fd, ok_Presser_presses_now F T  , He.meth_ok (c.fact 79 (f := .meth "Presser" "presses_now") rfl), F.bindsN fun _ _ _ _ _ _ us hl => match us, hl with | [_], _ => rfl⟩
theorem j_Presser_size (X : K.In h) (G : h.Ns mainGlobals mg) (c : He.SaysD faA fnA K) (T : Tp K mg)  (h_length : H_length P w K mg base) : H_Presser_size P w K mg base := by
  obtain ⟨fd, F⟩ := c.def_ 35 (d := d_Presser_size) rfl
  exact ⟨He.cls_ok (c.fact 66 (f := .cls "Presser") rfl), _, fd, ok_Presser_size F T  h_length, He.meth_ok (c.fact 80 (f := .meth "Presser" "size") rfl), F.bindsN fun _ _ _ _ _ _ us hl => match us, hl with | [_], _ => rfl⟩
theorem j_Walker___init__ (X : K.In h) (G : h.Ns mainGlobals mg) (c : He.SaysD faA fnA K) (T : Tp K mg)   : H_Walker___init__ P w K mg base := by
  obtain ⟨fd, F⟩ := c.def_ 36 (d := d_Walker___init__) rfl
  exact ⟨_, fd, ok_Walker___init__ F T  , He.mkr_ok (c.fact 90 (f := .mkr "Walker") rfl), He.glo_ok X G (c.fact 43 (f := .glo "Walker") rfl), F.bindsN fun _ _ _ _ _ _ us hl => match us, hl with | [_, _, _], _ => rfl⟩
theorem j_Presser_walker (X : K.In h) (G : h.Ns mainGlobals mg) (c : He.SaysD faA fnA K) (T : Tp K mg)  (h_is_whole : H_is_whole P w K mg base) (h_Presser_size : H_Presser_size P w K mg base) (h_Walker___init__ : H_Walker___init__ P w K mg base) : H_Presser_walker P w K mg base := by
  obtain ⟨fd, F⟩ := c.def_ 37 (d := d_Presser_walker) rfl
  obtain ⟨ds, hv, hb⟩ := F.binds1 (ps := ["self", "stand"]) 2 1 (by intro z; cases z) rfl fun _ _ _ _ _ _ _ us its h1 h2 => match us, h1, its, h2 with | [_, _], _, [_], _ => ⟨_, rfl, rfl⟩
  cases hv
  exact ⟨He.cls_ok (c.fact 66 (f := .cls "Presser") rfl), _, fd, ok_Presser_walker F T  h_is_whole h_Presser_size h_Walker___init__, He.meth_ok (c.fact 81 (f := .meth "Presser" "walker") rfl), hb⟩
theorem j_Walker_own_presses (X : K.In h) (G : h.Ns mainGlobals mg) (c : He.SaysD faA fnA K) (T : Tp K mg)  (h_Presser_presses_now : H_Presser_presses_now P w K mg base) : H_Walker_own_presses P w K mg base := by
  obtain ⟨fd, F⟩ := c.def_ 38 (d := d_Walker_own_presses) rfl
  exact ⟨He.cls_ok (c.fact 65 (f := .cls "Walker") rfl), _, fd, ok_Walker_own_presses F T  h_Presser_presses_now, He.meth_ok (c.fact 82 (f := .meth "Walker" "own_presses") rfl), F.bindsN fun _ _ _ _ _ _ us hl => match us, hl with | [_], _ => rfl⟩
theorem j_Walker_stands (X : K.In h) (G : h.Ns mainGlobals mg) (c : He.SaysD faA fnA K) (T : Tp K mg)   : H_Walker_stands P w K mg base := by
  obtain ⟨fd, F⟩ := c.def_ 39 (d := d_Walker_stands) rfl
  exact ⟨He.cls_ok (c.fact 65 (f := .cls "Walker") rfl), _, fd, ok_Walker_stands F T  , He.meth_ok (c.fact 83 (f := .meth "Walker" "stands") rfl), F.bindsN fun _ _ _ _ _ _ us hl => match us, hl with | [_], _ => rfl⟩
theorem j_Walker_go (X : K.In h) (G : h.Ns mainGlobals mg) (c : He.SaysD faA fnA K) (T : Tp K mg)  (h_is_whole : H_is_whole P w K mg base) (h_Presser_size : H_Presser_size P w K mg base) : H_Walker_go P w K mg base := by
  obtain ⟨fd, F⟩ := c.def_ 40 (d := d_Walker_go) rfl
  exact ⟨He.cls_ok (c.fact 65 (f := .cls "Walker") rfl), _, fd, ok_Walker_go F T  h_is_whole h_Presser_size, He.meth_ok (c.fact 84 (f := .meth "Walker" "go") rfl), F.bindsN fun _ _ _ _ _ _ us hl => match us, hl with | [_, _], _ => rfl⟩
theorem j_Walker_reads (X : K.In h) (G : h.Ns mainGlobals mg) (c : He.SaysD faA fnA K) (T : Tp K mg)  (h_is_whole : H_is_whole P w K mg base) (h_Presser_size : H_Presser_size P w K mg base) (h_window : H_window P w K mg base) (h_Walker_own_presses : H_Walker_own_presses P w K mg base) : H_Walker_reads P w K mg base := by
  obtain ⟨fd, F⟩ := c.def_ 41 (d := d_Walker_reads) rfl
  exact ⟨He.cls_ok (c.fact 65 (f := .cls "Walker") rfl), _, fd, ok_Walker_reads F T  h_is_whole h_Presser_size h_window h_Walker_own_presses, He.meth_ok (c.fact 85 (f := .meth "Walker" "reads") rfl), F.bindsN fun _ _ _ _ _ _ us hl => match us, hl with | [_, _], _ => rfl⟩
theorem j_Walker_gone_to (X : K.In h) (G : h.Ns mainGlobals mg) (c : He.SaysD faA fnA K) (T : Tp K mg) (Gg : Tg K mg) (h_how_often : H_how_often P w K mg base) (h_Walker_own_presses : H_Walker_own_presses P w K mg base) (h_place_at : H_place_at P w K mg base) : H_Walker_gone_to P w K mg base := by
  obtain ⟨fd, F⟩ := c.def_ 42 (d := d_Walker_gone_to) rfl
  exact ⟨He.cls_ok (c.fact 65 (f := .cls "Walker") rfl), _, fd, ok_Walker_gone_to F T Gg h_how_often h_Walker_own_presses h_place_at, He.meth_ok (c.fact 86 (f := .meth "Walker" "gone_to") rfl), F.bindsN fun _ _ _ _ _ _ us hl => match us, hl with | [_, _, _], _ => rfl⟩
theorem j_Walker_next_of (X : K.In h) (G : h.Ns mainGlobals mg) (c : He.SaysD faA fnA K) (T : Tp K mg)  (h_Walker_gone_to : H_Walker_gone_to P w K mg base) (h_stand_ahead : H_stand_ahead P w K mg base) (h_Walker_own_presses : H_Walker_own_presses P w K mg base) : H_Walker_next_of P w K mg base := by
  obtain ⟨fd, F⟩ := c.def_ 43 (d := d_Walker_next_of) rfl
  exact ⟨He.cls_ok (c.fact 65 (f := .cls "Walker") rfl), _, fd, ok_Walker_next_of F T  h_Walker_gone_to h_stand_ahead h_Walker_own_presses, He.meth_ok (c.fact 87 (f := .meth "Walker" "next_of") rfl), F.bindsN fun _ _ _ _ _ _ us hl => match us, hl with | [_, _], _ => rfl⟩
theorem j_Walker_last_of (X : K.In h) (G : h.Ns mainGlobals mg) (c : He.SaysD faA fnA K) (T : Tp K mg)  (h_Walker_gone_to : H_Walker_gone_to P w K mg base) (h_stand_ahead : H_stand_ahead P w K mg base) (h_Walker_own_presses : H_Walker_own_presses P w K mg base) : H_Walker_last_of P w K mg base := by
  obtain ⟨fd, F⟩ := c.def_ 44 (d := d_Walker_last_of) rfl
  exact ⟨He.cls_ok (c.fact 65 (f := .cls "Walker") rfl), _, fd, ok_Walker_last_of F T  h_Walker_gone_to h_stand_ahead h_Walker_own_presses, He.meth_ok (c.fact 88 (f := .meth "Walker" "last_of") rfl), F.bindsN fun _ _ _ _ _ _ us hl => match us, hl with | [_, _], _ => rfl⟩
theorem j__law_mixed (X : K.In h) (G : h.Ns mainGlobals mg) (c : He.SaysD faA fnA K) (T : Tp K mg)   : H__law_mixed P w K mg base := by
  obtain ⟨fd, F⟩ := c.def_ 45 (d := d__law_mixed) rfl
  exact ⟨_, fd, ok__law_mixed F T  , He.glo_ok X G (c.fact 28 (f := .glo "_law_mixed") rfl), F.kp, F.bindsN fun _ _ _ _ _ _ us hl => match us, hl with | [_, _], _ => rfl⟩
theorem j__law_draw (X : K.In h) (G : h.Ns mainGlobals mg) (c : He.SaysD faA fnA K) (T : Tp K mg)  (h__law_mixed : H__law_mixed P w K mg base) : H__law_draw P w K mg base := by
  obtain ⟨fd, F⟩ := c.def_ 46 (d := d__law_draw) rfl
  exact ⟨_, fd, ok__law_draw F T  h__law_mixed, He.glo_ok X G (c.fact 29 (f := .glo "_law_draw") rfl), F.kp, F.bindsN fun _ _ _ _ _ _ us hl => match us, hl with | [_, _], _ => rfl⟩
theorem j__law_of (X : K.In h) (G : h.Ns mainGlobals mg) (c : He.SaysD faA fnA K) (T : Tp K mg)  (h__law_draw : H__law_draw P w K mg base) : H__law_of P w K mg base := by
  obtain ⟨fd, F⟩ := c.def_ 47 (d := d__law_of) rfl
  exact ⟨_, fd, ok__law_of F T  h__law_draw, He.glo_ok X G (c.fact 30 (f := .glo "_law_of") rfl), F.kp, F.bindsN fun _ _ _ _ _ _ us hl => match us, hl with | [_, _], _ => rfl⟩
theorem j__law_great (X : K.In h) (G : h.Ns mainGlobals mg) (c : He.SaysD faA fnA K) (T : Tp K mg)  (h__law_draw : H__law_draw P w K mg base) : H__law_great P w K mg base := by
  obtain ⟨fd, F⟩ := c.def_ 48 (d := d__law_great) rfl
  exact ⟨_, fd, ok__law_great F T  h__law_draw, He.glo_ok X G (c.fact 31 (f := .glo "_law_great") rfl), F.kp, F.bindsN fun _ _ _ _ _ _ us hl => match us, hl with | [_, _], _ => rfl⟩
theorem j__law_state (X : K.In h) (G : h.Ns mainGlobals mg) (c : He.SaysD faA fnA K) (T : Tp K mg)   : H__law_state P w K mg base := by
  obtain ⟨fd, F⟩ := c.def_ 49 (d := d__law_state) rfl
  exact ⟨_, fd, ok__law_state F T  , He.glo_ok X G (c.fact 32 (f := .glo "_law_state") rfl), F.kp, F.bindsN fun _ _ _ _ _ _ us hl => match us, hl with | [_, _], _ => rfl⟩
theorem j__law_signs (X : K.In h) (G : h.Ns mainGlobals mg) (c : He.SaysD faA fnA K) (T : Tp K mg)  (h__law_of : H__law_of P w K mg base) (h__law_draw : H__law_draw P w K mg base) : H__law_signs P w K mg base := by
  obtain ⟨fd, F⟩ := c.def_ 50 (d := d__law_signs) rfl
  exact ⟨_, fd, ok__law_signs F T  h__law_of h__law_draw, He.glo_ok X G (c.fact 33 (f := .glo "_law_signs") rfl), F.kp, F.bindsN fun _ _ _ _ _ _ us hl => match us, hl with | [_], _ => rfl⟩
theorem j__law_row (X : K.In h) (G : h.Ns mainGlobals mg) (c : He.SaysD faA fnA K) (T : Tp K mg)  (h__law_draw : H__law_draw P w K mg base) (h__law_of : H__law_of P w K mg base) : H__law_row P w K mg base := by
  obtain ⟨fd, F⟩ := c.def_ 51 (d := d__law_row) rfl
  exact ⟨_, fd, ok__law_row F T  h__law_draw h__law_of, He.glo_ok X G (c.fact 34 (f := .glo "_law_row") rfl), F.kp, F.bindsN fun _ _ _ _ _ _ us hl => match us, hl with | [_, _, _, _], _ => rfl⟩
theorem j__law_closed (X : K.In h) (G : h.Ns mainGlobals mg) (c : He.SaysD faA fnA K) (T : Tp K mg)   : H__law_closed P w K mg base := by
  obtain ⟨fd, F⟩ := c.def_ 52 (d := d__law_closed) rfl
  exact ⟨_, fd, ok__law_closed F T  , He.glo_ok X G (c.fact 35 (f := .glo "_law_closed") rfl), F.kp, F.bindsN fun _ _ _ _ _ _ us hl => match us, hl with | [_], _ => rfl⟩
theorem j__law_sizes (X : K.In h) (G : h.Ns mainGlobals mg) (c : He.SaysD faA fnA K) (T : Tp K mg)   : H__law_sizes P w K mg base := by
  obtain ⟨fd, F⟩ := c.def_ 53 (d := d__law_sizes) rfl
  exact ⟨_, fd, ok__law_sizes F T  , He.glo_ok X G (c.fact 36 (f := .glo "_law_sizes") rfl), F.kp, F.bindsN fun _ _ _ _ _ _ us hl => match us, hl with | [_], _ => rfl⟩
theorem j__law_size (X : K.In h) (G : h.Ns mainGlobals mg) (c : He.SaysD faA fnA K) (T : Tp K mg)  (h__law_sizes : H__law_sizes P w K mg base) : H__law_size P w K mg base := by
  obtain ⟨fd, F⟩ := c.def_ 54 (d := d__law_size) rfl
  exact ⟨_, fd, ok__law_size F T  h__law_sizes, He.glo_ok X G (c.fact 37 (f := .glo "_law_size") rfl), F.kp, F.bindsN fun _ _ _ _ _ _ us hl => match us, hl with | [_], _ => rfl⟩
theorem j__law_read_right (X : K.In h) (G : h.Ns mainGlobals mg) (c : He.SaysD faA fnA K) (T : Tp K mg) (Gg : Tg K mg) (hGn : GoneDef K mg) (D3 : Dist K) (hne : cWal K ≠ cPre K) (TB : LamX.TabB base mg (He.cT K ("_law_read_right", none)).1 (He.cT K ("_law_read_right", none)).2) (h_mirror_text : H_mirror_text P w K mg base) (h_Presser___init__ : H_Presser___init__ P w K mg base) (h__law_size : H__law_size P w K mg base) (h__law_great : H__law_great P w K mg base) (h_Presser_walker : H_Presser_walker P w K mg base) (h_block_start : H_block_start P w K mg base) (h_Walker_stands : H_Walker_stands P w K mg base) (h_letter_at : H_letter_at P w K mg base) (h_Walker_next_of : H_Walker_next_of P w K mg base) (h_block_length : H_block_length P w K mg base) (h_block_of : H_block_of P w K mg base) (h_Presser_size : H_Presser_size P w K mg base) (h_Walker_last_of : H_Walker_last_of P w K mg base) : H__law_read_right P w K mg base := by
  obtain ⟨fd, F⟩ := c.def_ 55 (d := d__law_read_right) rfl
  exact ⟨_, fd, ok__law_read_right F T Gg hGn D3 hne TB h_mirror_text h_Presser___init__ h__law_size h__law_great h_Presser_walker h_block_start h_Walker_stands h_letter_at h_Walker_next_of h_block_length h_block_of h_Presser_size h_Walker_last_of, He.glo_ok X G (c.fact 38 (f := .glo "_law_read_right") rfl), F.kp, F.bindsN fun _ _ _ _ _ _ us hl => match us, hl with | [_, _, _], _ => rfl⟩
theorem j__law_window_right (X : K.In h) (G : h.Ns mainGlobals mg) (c : He.SaysD faA fnA K) (T : Tp K mg) (Gg : Tg K mg) (hGn : GoneDef K mg) (D3 : Dist K) (hne : cWal K ≠ cPre K) (TB : LamX.TabB base mg (He.cT K ("_law_window_right", none)).1 (He.cT K ("_law_window_right", none)).2) (h_Presser___init__ : H_Presser___init__ P w K mg base) (h__law_size : H__law_size P w K mg base) (h__law_great : H__law_great P w K mg base) (h_window : H_window P w K mg base) (h__law_draw : H__law_draw P w K mg base) (h_how_often : H_how_often P w K mg base) (h_Presser_walker : H_Presser_walker P w K mg base) (h_stand_ahead : H_stand_ahead P w K mg base) (h_Walker_stands : H_Walker_stands P w K mg base) (h_place_at : H_place_at P w K mg base) (h_Walker_reads : H_Walker_reads P w K mg base) (h_Walker_next_of : H_Walker_next_of P w K mg base) (h_Walker_last_of : H_Walker_last_of P w K mg base) : H__law_window_right P w K mg base := by
  obtain ⟨fd, F⟩ := c.def_ 56 (d := d__law_window_right) rfl
  exact ⟨_, fd, ok__law_window_right F T Gg hGn D3 hne TB h_Presser___init__ h__law_size h__law_great h_window h__law_draw h_how_often h_Presser_walker h_stand_ahead h_Walker_stands h_place_at h_Walker_reads h_Walker_next_of h_Walker_last_of, He.glo_ok X G (c.fact 39 (f := .glo "_law_window_right") rfl), F.kp, F.bindsN fun _ _ _ _ _ _ us hl => match us, hl with | [_, _], _ => rfl⟩
theorem j__law_walked_right (X : K.In h) (G : h.Ns mainGlobals mg) (c : He.SaysD faA fnA K) (T : Tp K mg) (Gg : Tg K mg) (hGn : GoneDef K mg) (D3 : Dist K) (hne : cWal K ≠ cPre K) (TB : LamX.TabB base mg (He.cT K ("_law_walked_right", none)).1 (He.cT K ("_law_walked_right", none)).2) (h_Presser___init__ : H_Presser___init__ P w K mg base) (h__law_closed : H__law_closed P w K mg base) (h__law_draw : H__law_draw P w K mg base) (h_Presser_walker : H_Presser_walker P w K mg base) (h_Walker_go : H_Walker_go P w K mg base) (h_Walker_stands : H_Walker_stands P w K mg base) (h_Walker_next_of : H_Walker_next_of P w K mg base) (h_Walker_last_of : H_Walker_last_of P w K mg base) : H__law_walked_right P w K mg base := by
  obtain ⟨fd, F⟩ := c.def_ 57 (d := d__law_walked_right) rfl
  exact ⟨_, fd, ok__law_walked_right F T Gg hGn D3 hne TB h_Presser___init__ h__law_closed h__law_draw h_Presser_walker h_Walker_go h_Walker_stands h_Walker_next_of h_Walker_last_of, He.glo_ok X G (c.fact 40 (f := .glo "_law_walked_right") rfl), F.kp, F.bindsN fun _ _ _ _ _ _ us hl => match us, hl with | [_, _], _ => rfl⟩
theorem j_law (X : K.In h) (G : h.Ns mainGlobals mg) (c : He.SaysD faA fnA K) (e : exA K = true) {fd : FuncData} (F : FunD K "law" "law" (defArgs (top 76)) (defBody (top 76)) (defScope (top 76)) [] [] (He.ga K "law") fd)
    (TBs : ∀ p ∈ tfA.map (He.cT K), LamX.TabB base mg p.1 p.2) : FnOk P w K mg base CX0 13 (He.ga K "law") fd ["_law_script"] (sp_law K) := by
  have T := j_Tp X G c
  obtain ⟨Gg, hne, D3⟩ := j_Tg X G c e
  have hGn := j_gone X G c
  have h_is_whole : H_is_whole P w K mg base := j_whole X G c T
  have h_is_letter : H_is_letter P w K mg base := j_is_letter X G c T  
  have h_odd_place : H_odd_place P w K mg base := j_odd_place X G c T  
  have h_need_presses : H_need_presses P w K mg base := j_need_presses X G c T  h_odd_place
  have h_need_text : H_need_text P w K mg base := j_need_text X G c T  h_odd_place
  have h_need_letter : H_need_letter P w K mg base := j_need_letter X G c T  h_is_letter
  have h_need_within : H_need_within P w K mg base := j_need_within X G c T  h_is_whole
  have h_need_cut : H_need_cut P w K mg base := j_need_cut X G c T  h_need_presses h_need_within
  have h_lasts_of : H_lasts_of P w K mg base := j_lasts_of X G c T  
  have h_lengths_of : H_lengths_of P w K mg base := j_lengths_of X G c T  h_lasts_of
  have h_length : H_length P w K mg base := j_length X G c T  h_need_presses h_lengths_of
  have h_growths : H_growths P w K mg base := j_growths X G c T  h_need_presses h_lengths_of
  have h_letter_there : H_letter_there P w K mg base := j_letter_there X G c T  
  have h_letter_at : H_letter_at P w K mg base := j_letter_at X G c T  h_need_presses h_lengths_of h_is_whole h_letter_there
  have h_window : H_window P w K mg base := j_window X G c T  h_need_presses h_lengths_of h_is_whole h_letter_there
  have h_mirror_text : H_mirror_text P w K mg base := j_mirror_text X G c T  h_need_presses h_lengths_of h_lasts_of
  have h_added_by : H_added_by P w K mg base := j_added_by X G c T  h_growths
  have h_block_length : H_block_length P w K mg base := j_block_length X G c T  h_need_presses h_need_letter h_added_by
  have h_digits_of : H_digits_of P w K mg base := j_digits_of X G c T  
  have h_value_of : H_value_of P w K mg base := j_value_of X G c T  
  have h_block_of : H_block_of P w K mg base := j_block_of X G c T  h_need_cut h_growths h_need_within h_digits_of h_value_of
  have h_block_start : H_block_start P w K mg base := j_block_start X G c T  h_need_cut h_growths h_need_within h_value_of h_digits_of
  have h_Copies___init__ : H_Copies___init__ P w K mg base := j_Copies___init__ X G c T  h_need_presses
  have h_Copies___len__ : H_Copies___len__ P w K mg base := j_Copies___len__ X G c T  
  have h_Copies_size : H_Copies_size P w K mg base := j_Copies_size X G c T  
  have h_Copies_head : H_Copies_head P w K mg base := j_Copies_head X G c T  
  have h_Copies_midst : H_Copies_midst P w K mg base := j_Copies_midst X G c T  h_Copies_size
  have h_need_piece : H_need_piece P w K mg base := j_need_piece X G c T  h_need_text
  have h_found_home : H_found_home P w K mg base := j_found_home X G c T  h_Copies_head h_Copies___len__ h_Copies_midst
  have h_home : H_home P w K mg base := j_home X G c T  h_Copies___init__ h_need_piece h_found_home
  have h_how_often : H_how_often P w K mg base := j_how_often X G c T  h_Copies___init__ h_need_piece h_found_home h_length
  have h_place_at : H_place_at P w K mg base := j_place_at X G c T  h_home h_is_whole h_length h_block_start
  have h_stand_ahead : H_stand_ahead P w K mg base := j_stand_ahead X G c T  h_home h_length h_is_whole h_block_of
  have h_Presser___init__ : H_Presser___init__ P w K mg base := j_Presser___init__ X G c T  h_need_presses
  have h_Presser_presses_now : H_Presser_presses_now P w K mg base := j_Presser_presses_now X G c T  
  have h_Presser_size : H_Presser_size P w K mg base := j_Presser_size X G c T  h_length
  have h_Walker___init__ : H_Walker___init__ P w K mg base := j_Walker___init__ X G c T  
  have h_Presser_walker : H_Presser_walker P w K mg base := j_Presser_walker X G c T  h_is_whole h_Presser_size h_Walker___init__
  have h_Walker_own_presses : H_Walker_own_presses P w K mg base := j_Walker_own_presses X G c T  h_Presser_presses_now
  have h_Walker_stands : H_Walker_stands P w K mg base := j_Walker_stands X G c T  
  have h_Walker_go : H_Walker_go P w K mg base := j_Walker_go X G c T  h_is_whole h_Presser_size
  have h_Walker_reads : H_Walker_reads P w K mg base := j_Walker_reads X G c T  h_is_whole h_Presser_size h_window h_Walker_own_presses
  have h_Walker_gone_to : H_Walker_gone_to P w K mg base := j_Walker_gone_to X G c T Gg h_how_often h_Walker_own_presses h_place_at
  have h_Walker_next_of : H_Walker_next_of P w K mg base := j_Walker_next_of X G c T  h_Walker_gone_to h_stand_ahead h_Walker_own_presses
  have h_Walker_last_of : H_Walker_last_of P w K mg base := j_Walker_last_of X G c T  h_Walker_gone_to h_stand_ahead h_Walker_own_presses
  have h__law_mixed : H__law_mixed P w K mg base := j__law_mixed X G c T  
  have h__law_draw : H__law_draw P w K mg base := j__law_draw X G c T  h__law_mixed
  have h__law_of : H__law_of P w K mg base := j__law_of X G c T  h__law_draw
  have h__law_great : H__law_great P w K mg base := j__law_great X G c T  h__law_draw
  have h__law_state : H__law_state P w K mg base := j__law_state X G c T  
  have h__law_signs : H__law_signs P w K mg base := j__law_signs X G c T  h__law_of h__law_draw
  have h__law_row : H__law_row P w K mg base := j__law_row X G c T  h__law_draw h__law_of
  have h__law_closed : H__law_closed P w K mg base := j__law_closed X G c T  
  have h__law_sizes : H__law_sizes P w K mg base := j__law_sizes X G c T  
  have h__law_size : H__law_size P w K mg base := j__law_size X G c T  h__law_sizes
  have h__law_read_right : H__law_read_right P w K mg base := j__law_read_right X G c T Gg hGn D3 hne (TBs (He.cT K ("_law_read_right", none)) (List.mem_map.mpr ⟨("_law_read_right", none), by simp [tfA], rfl⟩)) h_mirror_text h_Presser___init__ h__law_size h__law_great h_Presser_walker h_block_start h_Walker_stands h_letter_at h_Walker_next_of h_block_length h_block_of h_Presser_size h_Walker_last_of
  have h__law_window_right : H__law_window_right P w K mg base := j__law_window_right X G c T Gg hGn D3 hne (TBs (He.cT K ("_law_window_right", none)) (List.mem_map.mpr ⟨("_law_window_right", none), by simp [tfA], rfl⟩)) h_Presser___init__ h__law_size h__law_great h_window h__law_draw h_how_often h_Presser_walker h_stand_ahead h_Walker_stands h_place_at h_Walker_reads h_Walker_next_of h_Walker_last_of
  have h__law_walked_right : H__law_walked_right P w K mg base := j__law_walked_right X G c T Gg hGn D3 hne (TBs (He.cT K ("_law_walked_right", none)) (List.mem_map.mpr ⟨("_law_walked_right", none), by simp [tfA], rfl⟩)) h_Presser___init__ h__law_closed h__law_draw h_Presser_walker h_Walker_go h_Walker_stands h_Walker_next_of h_Walker_last_of
  exact ok_law F T h__law_state h__law_signs h__law_row h__law_sizes h__law_window_right h__law_read_right h__law_of h__law_walked_right
theorem lawAt {w : World} {K : Frag} {h : Heap} {mg : Str → Option Value} {fa : Addr} (X : K.In h) (c : He.SaysX faA fnA [] tfA exA w h K) (G : h.Ns mainGlobals mg) (hmg : mg ("law" : Str) = some (.ref fa)) :
    LamX.LawAtS PySem.Challenge.rw_mirrorpress_k55_whole_read_by_walking w K CX0 13 63 "_law_script" mg fa h := by
  have cd : He.SaysD faA fnA K := c.t.d
  obtain ⟨fd, F⟩ := cd.def_ 58 (d := d_law) rfl
  have e := hmg.symm.trans (He.glo_ok X G (cd.fact 41 (f := .glo "law") rfl))
  cases e
  have hb := FunD.bindsA (ps := ["_law_script"]) F fun _ _ _ _ _ _ us hl => match us, hl with | [_], _ => rfl
  refine ⟨fd, tfA.map (He.cT K), sp_law K, ?_, ?_, ?_, fun s v => hb s [v] rfl, ?_, fun base _ _ TBs => j_law X G cd c.more F TBs⟩
  · rintro p hp
    obtain ⟨q, hq, rfl⟩ := List.mem_map.mp hp
    exact c.empty q hq
  · rintro p hp
    obtain ⟨q, hq, rfl⟩ := List.mem_map.mp hp
    exact c.out q hq
  · rintro p hp
    obtain ⟨q, hq, rfl⟩ := List.mem_map.mp hp
    exact PySem.W.codeHd_of_K X (c.hd q hq)
  · intro H a ns hl _ hT hS
    refine ⟨a, ns, rfl, hS, fun p hp => ?_, hl, fun _ => rfl⟩
    have key : ∀ q ∈ tfA, H (He.cT K q).2 = some (.tbl #[]) := fun q hq => hT (He.cT K q) (List.mem_map.mpr ⟨q, hq, rfl⟩)
    simp [tabs] at hp
    rcases hp with rfl | rfl | rfl
    · exact LamX.TabS.nil (key _ (by simp [tfA]))
    · exact LamX.TabS.nil (key _ (by simp [tfA]))
    · exact LamX.TabS.nil (key _ (by simp [tfA]))
end
end Mw
end
set_option Elab.async false
set_option linter.all false
set_option maxRecDepth 1000000
set_option maxHeartbeats 0
open PySem PySem.W PySem.Calls PyProof.Rows
theorem PySem.Challenge.cw_mirrorpress_k55_whole_read_by_walking_holds : PySem.Challenge.rw_mirrorpress_k55_whole_read_by_walking.Holds := by
  w_on; o_law
  refine HandSHeadRun.head_any (r := OpenLaw.row PySem.Challenge.rw_mirrorpress_k55_whole_read_by_walking) (q := view (OpenLaw.row PySem.Challenge.rw_mirrorpress_k55_whole_read_by_walking).prog [76]) (H := Mw.hkA) (ob := Mw.obA) (M := 20000) (loose := Mw.looseA) (d := HandSHeadRun.topDef (OpenLaw.row PySem.Challenge.rw_mirrorpress_k55_whole_read_by_walking).prog 76) (kwd := []) Mw.obA_eq
    (by kernel_rfl) (fun s => by kernel_rfl) Mw.runA (by kernel_rfl) (by kernel_rfl) (by kernel_rfl) (by rfl) (by first | assumption | decide +kernel) (by decide +kernel) ⟨rfl, rfl, rfl, rfl, rfl, by decide +kernel⟩ ?hw ?hc
  case hw => w_witness2
  case hc =>
    refine LamX.walk_ofTsE (l := PySem.Challenge.rw_mirrorpress_k55_whole_read_by_walking) (n := 63) (k := 13) (x := "_law_script") (CX := fun _ => L2.CX0) rfl (by decide) (by kernel_rfl) ⟨rfl, by decide, by decide⟩ ?F (fun _ _ _ _ _ z => z)
    intro w mg fa h Y G hmg0
    obtain ⟨K, KX, c⟩ := Y
    have hmg : mg ("law" : PySem.Str) = some (.ref fa) := by
      have e : (HandSHeadRun.topDef (OpenLaw.row PySem.Challenge.rw_mirrorpress_k55_whole_read_by_walking).prog 76).name = ("law" : PySem.Str) := by kernel_rfl
      rw [← e]
      exact hmg0
    exact ⟨K, KX, Mw.lawAt KX c G hmg⟩
