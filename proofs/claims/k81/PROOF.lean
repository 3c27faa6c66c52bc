import PyProof.Rows.All
import Wide.All
import OpenK.AllK
import Wide.FinOn
import HandS.ForMost
import HandS.ForExc
import HandS.More
import HandS.DictComp
import HandS.SortKw
import HandS.IsInst
import HandS.Walk
import HandS.TupAny
import HandS.Zip
import KE.DataMinMax
import KE.KDictDisplayH
import HandS.Evl
import PySem.Challenge.RW_busyfloor_k81_whole_most_done_and_its_bo
set_option Elab.async false
set_option linter.all false
set_option maxRecDepth 100000
set_option maxHeartbeats 4000000
namespace K81
/-! Plain arithmetic of heaps and windows: no program in sight. -/

/-- hours of the works f of the lengths ks -/
def hsum (ks : List Int) (f : Int → Int) : Int := (ks.map fun l => l * f l).sum
/-- hours of the works of length t or more; of less -/
def hge (ks : List Int) (f : Int → Int) (t : Int) : Int := hsum (ks.filter fun l => decide (t ≤ l)) f
def hlt (ks : List Int) (f : Int → Int) (t : Int) : Int := hsum (ks.filter fun l => decide (l < t)) f
/-- the windows cut to whole numbers of a length -/
def cut (ws : List Int) (t : Int) : Int := (ws.map fun w => w / t * t).sum

theorem hsum_nil (f : Int → Int) : hsum [] f = 0 := rfl
theorem hsum_cons (l : Int) (r : List Int) (f : Int → Int) : hsum (l :: r) f = l * f l + hsum r f := by
  simp only [hsum, List.map_cons, List.sum_cons]
theorem hsum_app : ∀ (a b : List Int) (f : Int → Int), hsum (a ++ b) f = hsum a f + hsum b f
  | [], b, f => by rw [hsum_nil, List.nil_append]; omega
  | l :: r, b, f => by rw [List.cons_append, hsum_cons, hsum_cons, hsum_app r b f]; omega
theorem hsum_congr : ∀ (ks : List Int) (f g : Int → Int), (∀ l ∈ ks, f l = g l) → hsum ks f = hsum ks g
  | [], _, _, _ => rfl
  | l :: r, f, g, h => by
    rw [hsum_cons, hsum_cons, h l (List.mem_cons_self ..), hsum_congr r f g fun k hk => h k (List.mem_cons_of_mem _ hk)]
theorem hsum_sub : ∀ (ks : List Int) (f g : Int → Int), hsum ks (fun l => f l - g l) = hsum ks f - hsum ks g
  | [], _, _ => rfl
  | l :: r, f, g => by
    rw [hsum_cons, hsum_cons, hsum_cons, hsum_sub r f g, Int.mul_sub]; omega
theorem hsum_perm {a b : List Int} (h : a.Perm b) (f : Int → Int) : hsum a f = hsum b f := by
  induction h with
  | nil => rfl
  | cons x _ ih => rw [hsum_cons, hsum_cons, ih]
  | swap x y l => rw [hsum_cons, hsum_cons, hsum_cons, hsum_cons]; omega
  | trans _ _ h1 h2 => rw [h1, h2]
theorem hsum_split : ∀ (ks : List Int) (f : Int → Int) (t : Int), hsum ks f = hge ks f t + hlt ks f t
  | [], _, _ => rfl
  | l :: r, f, t => by
    have ih := hsum_split r f t
    unfold hge hlt at *
    by_cases h : t ≤ l
    · have h2 : ¬ l < t := by omega
      rw [List.filter_cons_of_pos (by simpa using h), List.filter_cons_of_neg (by simpa using h2), hsum_cons, hsum_cons, ih]; omega
    · have h2 : l < t := by omega
      rw [List.filter_cons_of_neg (by simpa using h), List.filter_cons_of_pos (by simpa using h2), hsum_cons, hsum_cons, ih]; omega
theorem hsum_nonneg : ∀ (ks : List Int) (f : Int → Int), (∀ l ∈ ks, 1 ≤ l ∧ 0 ≤ f l) → 0 ≤ hsum ks f
  | [], _, _ => Int.le_refl 0
  | l :: r, f, h => by
    rw [hsum_cons]
    have h1 := h l (List.mem_cons_self ..)
    have h2 := hsum_nonneg r f fun k hk => h k (List.mem_cons_of_mem _ hk)
    have h3 : 0 ≤ l * f l := Int.mul_nonneg (by omega) h1.2
    omega
theorem hge_sub (ks : List Int) (f g : Int → Int) (t : Int) : hge ks (fun l => f l - g l) t = hge ks f t - hge ks g t := hsum_sub _ f g
theorem hlt_sub (ks : List Int) (f g : Int → Int) (t : Int) : hlt ks (fun l => f l - g l) t = hlt ks f t - hlt ks g t := hsum_sub _ f g
theorem hge_perm {a b : List Int} (h : a.Perm b) (f : Int → Int) (t : Int) : hge a f t = hge b f t := hsum_perm (h.filter _) f
theorem hlt_perm {a b : List Int} (h : a.Perm b) (f : Int → Int) (t : Int) : hlt a f t = hlt b f t := hsum_perm (h.filter _) f
theorem hlt_nonneg {ks : List Int} {f : Int → Int} (h : ∀ l ∈ ks, 1 ≤ l ∧ 0 ≤ f l) (t : Int) : 0 ≤ hlt ks f t :=
  hsum_nonneg _ _ fun l hl => h l (List.mem_filter.mp hl).1
theorem hge_dvd : ∀ (ks : List Int) (x : Int → Int) (t : Int), (∀ l ∈ ks, t ≤ l → t ∣ l) → t ∣ hge ks x t
  | [], _, t, _ => ⟨0, by show (0 : Int) = t * 0; omega⟩
  | l :: r, x, t, h => by
    have ih := hge_dvd r x t fun k hk => h k (List.mem_cons_of_mem _ hk)
    unfold hge at *
    by_cases c : t ≤ l
    · rw [List.filter_cons_of_pos (by simpa using c), hsum_cons]
      exact Int.dvd_add (Int.dvd_mul_of_dvd_left (h l (List.mem_cons_self ..) c)) ih
    · rw [List.filter_cons_of_neg (by simpa using c)]; exact ih

/-! ### the longest first in one window -/
/-- how many works of length k lie in a window w, the lengths ds being tried in this order -/
def gr : List Int → (Int → Int) → Int → Int → Int
  | [], _, _, _ => 0
  | l :: r, f, w, k => if k = l then min (f l) (w / l) else gr r f (w - l * min (f l) (w / l)) k
theorem gr_head (l : Int) (r : List Int) (f : Int → Int) (w : Int) : gr (l :: r) f w l = min (f l) (w / l) := if_pos rfl
theorem gr_tail {l k : Int} (h : k ≠ l) (r : List Int) (f : Int → Int) (w : Int) : gr (l :: r) f w k = gr r f (w - l * min (f l) (w / l)) k := if_neg h

theorem step_ok {f l w : Int} (hl : 1 ≤ l) (hf : 0 ≤ f) (hw : 0 ≤ w) : 0 ≤ min f (w / l) ∧ min f (w / l) ≤ f ∧ 0 ≤ w - l * min f (w / l) := by
  have h1 : 0 ≤ w / l := Int.ediv_nonneg hw (by omega)
  have h2 : l * (w / l) ≤ w := Int.mul_ediv_self_le (by omega)
  have h3 : min f (w / l) ≤ w / l := Int.min_le_right ..
  have h4 : l * min f (w / l) ≤ l * (w / l) := Int.mul_le_mul_of_nonneg_left h3 (by omega)
  omega
/-- what lies there is there, and fits -/
theorem gr_ok : ∀ (ds : List Int) (f : Int → Int) (w : Int), (∀ l ∈ ds, 1 ≤ l ∧ 0 ≤ f l) → ds.Nodup → 0 ≤ w →
    (∀ k ∈ ds, 0 ≤ gr ds f w k ∧ gr ds f w k ≤ f k) ∧ hsum ds (gr ds f w) ≤ w
  | [], _, w, _, _, hw => ⟨fun k hk => (List.not_mem_nil hk).elim, by rw [hsum_nil]; exact hw⟩
  | l :: r, f, w, h, nd, hw => by
    have h0 := h l (List.mem_cons_self ..)
    obtain ⟨s1, s2, s3⟩ := step_ok h0.1 h0.2 hw
    obtain ⟨n1, n2⟩ := List.nodup_cons.mp nd
    obtain ⟨i1, i2⟩ := gr_ok r f (w - l * min (f l) (w / l)) (fun k hk => h k (List.mem_cons_of_mem _ hk)) n2 s3
    refine ⟨fun k hk => ?_, ?_⟩
    · by_cases e : k = l
      · subst e; rw [gr_head]; exact ⟨s1, s2⟩
      · rw [gr_tail e]; exact i1 k ((List.mem_cons.mp hk).resolve_left e)
    · rw [hsum_cons, gr_head, hsum_congr r _ (gr r f (w - l * min (f l) (w / l))) fun k hk => gr_tail (fun e => n1 (by rw [← e]; exact hk)) r f w]
      omega
/-- what the loop over the lengths does at a place -/
theorem gr_at : ∀ (ds : List Int) (f : Int → Int) (w : Int) (i : Nat) (k : Int), ds.Nodup → ds[i]? = some k →
    gr ds f w k = min (f k) ((w - hsum (ds.take i) (gr ds f w)) / k)
  | [], _, _, _, _, _, h => by simp at h
  | l :: r, f, w, 0, k, _, h => by
    have e : l = k := by simpa using h
    subst e
    rw [gr_head, List.take_zero, hsum_nil, Int.sub_zero]
  | l :: r, f, w, i + 1, k, nd, h => by
    obtain ⟨n1, n2⟩ := List.nodup_cons.mp nd
    have hk : r[i]? = some k := by simpa using h
    have hm : k ∈ r := List.mem_of_getElem? hk
    have hne : k ≠ l := fun e => n1 (e ▸ hm)
    have c : hsum (r.take i) (gr (l :: r) f w) = hsum (r.take i) (gr r f (w - l * min (f l) (w / l))) :=
      hsum_congr _ _ _ fun x hx => gr_tail (fun e => n1 (by rw [← e]; exact List.mem_of_mem_take hx)) r f w
    rw [gr_tail hne, gr_at r f _ i k n2 hk, List.take_succ_cons, hsum_cons, gr_head, c, Int.sub_sub]
/-- where works of a length are left, the window is full of works as long or longer -/
theorem gr_full : ∀ (ds : List Int) (f : Int → Int) (w t : Int), ds.Pairwise (fun a b => b < a ∧ b ∣ a) → (∀ l ∈ ds, 1 ≤ l) → t ∈ ds → gr ds f w t < f t →
    hge ds (gr ds f w) t = w / t * t
  | [], _, _, _, _, _, h, _ => (List.not_mem_nil h).elim
  | l :: r, f, w, t, pw, pos, ht, hlt => by
    obtain ⟨p1, p2⟩ := List.pairwise_cons.mp pw
    have nin : ∀ k ∈ r, k ≠ l := fun k hk e => by have := (p1 k hk).1; omega
    by_cases e : t = l
    · subst e
      rw [gr_head] at hlt
      have ev : min (f t) (w / t) = w / t := by omega
      have emp : r.filter (fun l => decide (t ≤ l)) = [] := by
        rw [List.filter_eq_nil_iff]
        intro k hk
        have := (p1 k hk).1
        simp; omega
      unfold hge
      rw [List.filter_cons_of_pos (by simp), hsum_cons, emp, hsum_nil, gr_head, ev, Int.mul_comm]; omega
    · have hr : t ∈ r := (List.mem_cons.mp ht).resolve_left e
      rw [gr_tail e] at hlt
      obtain ⟨q1, c, q2⟩ := p1 t hr
      have ih := gr_full r f (w - l * min (f l) (w / l)) t p2 (fun k hk => pos k (List.mem_cons_of_mem _ hk)) hr hlt
      have tp := pos t ht
      have cg : hge r (gr (l :: r) f w) t = hge r (gr r f (w - l * min (f l) (w / l))) t :=
        hsum_congr _ _ _ fun k hk => gr_tail (nin k (List.mem_filter.mp hk).1) r f w
      have hd : hge (l :: r) (gr (l :: r) f w) t = l * min (f l) (w / l) + hge r (gr (l :: r) f w) t := by
        unfold hge
        rw [List.filter_cons_of_pos (by simp; omega), hsum_cons, gr_head]
      rw [hd, cg, ih]
      generalize min (f l) (w / l) = x
      have d : (w - l * x) / t = w / t - c * x := by
        have e1 : w - l * x = w + t * (-(c * x)) := by
          rw [q2, Int.mul_neg, Int.mul_assoc]; omega
        rw [e1, Int.add_mul_ediv_left _ _ (by omega)]; omega
      rw [d, Int.sub_mul, q2]
      have e3 : t * c * x = c * x * t := by rw [Int.mul_assoc, Int.mul_comm]
      omega

/-! ### window by window -/
/-- what is left behind the windows -/
def lft (ds : List Int) : (Int → Int) → List Int → Int → Int
  | f, [] => f
  | f, w :: ws => lft ds (fun k => f k - gr ds f w k) ws
/-- what lies in each window -/
def fills (ds : List Int) : (Int → Int) → List Int → List (Int → Int)
  | _, [] => []
  | f, w :: ws => gr ds f w :: fills ds (fun k => f k - gr ds f w k) ws
theorem lft_app (ds : List Int) : ∀ (a b : List Int) (f : Int → Int), lft ds f (a ++ b) = lft ds (lft ds f a) b
  | [], _, _ => rfl
  | _ :: a, b, _ => lft_app ds a b _
theorem lft_snoc (ds a : List Int) (w : Int) (f : Int → Int) : lft ds f (a ++ [w]) = fun k => lft ds f a k - gr ds (lft ds f a) w k := lft_app ds a [w] f
theorem fills_len (ds : List Int) : ∀ (ws : List Int) (f : Int → Int), (fills ds f ws).length = ws.length
  | [], _ => rfl
  | _ :: ws, _ => congrArg (· + 1) (fills_len ds ws _)
theorem fills_at (ds : List Int) : ∀ (ws : List Int) (f : Int → Int) (i : Nat) (w : Int), ws[i]? = some w → (fills ds f ws)[i]? = some (gr ds (lft ds f (ws.take i)) w)
  | [], _, _, _, h => by simp at h
  | v :: ws, f, 0, w, h => by
    have e : v = w := by simpa using h
    subst e; rfl
  | v :: ws, f, i + 1, w, h => fills_at ds ws _ i w (by simpa using h)

/-- a right heap (by its lengths, ascending) -/
structure Lens (ls : List Int) (f : Int → Int) : Prop where
  up : ls.Pairwise (fun a b => a < b)
  pos : ∀ l ∈ ls, 1 ≤ l
  non : ∀ l ∈ ls, 0 ≤ f l
theorem Lens.both {ls : List Int} {f : Int → Int} (L : Lens ls f) : ∀ l ∈ ls, 1 ≤ l ∧ 0 ≤ f l := fun l h => ⟨L.pos l h, L.non l h⟩
theorem up_nodup {ls : List Int} (h : ls.Pairwise (fun a b => a < b)) : ls.Nodup := h.imp fun e => by omega
theorem Lens.nd {ls : List Int} {f : Int → Int} (L : Lens ls f) : ls.Nodup := up_nodup L.up
theorem Lens.rnd {ls : List Int} {f : Int → Int} (L : Lens ls f) : ls.reverse.Nodup := (List.reverse_perm ls).symm.nodup L.nd
theorem Lens.step {ls : List Int} {f : Int → Int} (L : Lens ls f) {w : Int} (hw : 0 ≤ w) : Lens ls (fun k => f k - gr ls.reverse f w k) :=
  ⟨L.up, L.pos, fun l hl => by
    have h := ((gr_ok ls.reverse f w (fun k hk => L.both k (List.mem_reverse.mp hk)) L.rnd hw).1 l (List.mem_reverse.mpr hl)).2
    show 0 ≤ f l - gr ls.reverse f w l
    omega⟩
/-- each length goes into the greater ones -/
def Goes (ls : List Int) : Prop := ls.Pairwise (fun a b => a ∣ b)
theorem down {ls : List Int} {f : Int → Int} (L : Lens ls f) (G : Goes ls) : ls.reverse.Pairwise (fun a b => b < a ∧ b ∣ a) :=
  List.pairwise_reverse.mpr (L.up.and G)

theorem lft_ok {ls : List Int} : ∀ (ws : List Int) (f : Int → Int), Lens ls f → (∀ w ∈ ws, 0 ≤ w) → Lens ls (lft ls.reverse f ws) ∧ ∀ l ∈ ls, lft ls.reverse f ws l ≤ f l
  | [], f, L, _ => ⟨L, fun l _ => Int.le_refl _⟩
  | w :: ws, f, L, h => by
    have hw := h w (List.mem_cons_self ..)
    obtain ⟨i1, i2⟩ := lft_ok ws _ (L.step hw) fun v hv => h v (List.mem_cons_of_mem _ hv)
    refine ⟨i1, fun l hl => ?_⟩
    have a := i2 l hl
    have b := ((gr_ok ls.reverse f w (fun k hk => L.both k (List.mem_reverse.mp hk)) L.rnd hw).1 l (List.mem_reverse.mpr hl)).1
    show lft ls.reverse _ ws l ≤ f l
    exact Int.le_trans a (by omega)
theorem cut_cons (w : Int) (ws : List Int) (t : Int) : cut (w :: ws) t = w / t * t + cut ws t := by
  simp only [cut, List.map_cons, List.sum_cons]
theorem cut_snoc : ∀ (ws : List Int) (w t : Int), cut (ws ++ [w]) t = cut ws t + w / t * t
  | [], w, t => by rw [List.nil_append, cut_cons]; show _ + 0 = 0 + _; omega
  | v :: ws, w, t => by rw [List.cons_append, cut_cons, cut_cons, cut_snoc ws w t]; omega
/-- where works of a length are left at the end, all windows were full of works as long or longer -/
theorem lft_full {ls : List Int} (G : Goes ls) {t : Int} (ht : t ∈ ls) : ∀ (ws : List Int) (f : Int → Int), Lens ls f → (∀ w ∈ ws, 0 ≤ w) → 0 < lft ls.reverse f ws t →
    hge ls f t - hge ls (lft ls.reverse f ws) t = cut ws t
  | [], f, _, _, _ => by
    show hge ls f t - hge ls f t = 0
    omega
  | w :: ws, f, L, h, hp => by
    have hw := h w (List.mem_cons_self ..)
    have hr : ∀ v ∈ ws, 0 ≤ v := fun v hv => h v (List.mem_cons_of_mem _ hv)
    have L1 := L.step hw
    have ih := lft_full G ht ws _ L1 hr hp
    have le := (lft_ok ws _ L1 hr).2 t ht
    have hp1 : 0 < lft ls.reverse (fun k => f k - gr ls.reverse f w k) ws t := hp
    have full := gr_full ls.reverse f w t (down L G) (fun l hl => L.pos l (List.mem_reverse.mp hl)) (List.mem_reverse.mpr ht) (by omega)
    rw [hge_perm (List.reverse_perm ls)] at full
    rw [hge_sub, full] at ih
    rw [cut_cons]
    show hge ls f t - hge ls (lft ls.reverse (fun k => f k - gr ls.reverse f w k) ws) t = _
    omega

/-! ### bounds -/
def bnd (ls : List Int) (f : Int → Int) (ws : List Int) (l : Int) : Int := cut ws l + hlt ls f l
/-- hours that the longest first has done -/
def done (ls : List Int) (f : Int → Int) (ws : List Int) : Int := hsum ls f - hsum ls (lft ls.reverse f ws)

theorem first_left : ∀ (ls : List Int) (F : Int → Int), ls.Pairwise (fun a b => a < b) → (∀ l ∈ ls, 0 ≤ F l) →
    (∀ l ∈ ls, F l = 0) ∨ ∃ t ∈ ls, 0 < F t ∧ ∀ l ∈ ls, l < t → F l = 0
  | [], _, _, _ => .inl fun l h => (List.not_mem_nil h).elim
  | l :: r, F, pw, h => by
    obtain ⟨p1, p2⟩ := List.pairwise_cons.mp pw
    have h0 := h l (List.mem_cons_self ..)
    by_cases e : F l = 0
    · rcases first_left r F p2 (fun k hk => h k (List.mem_cons_of_mem _ hk)) with a | ⟨t, t1, t2, t3⟩
      · exact .inl fun k hk => (List.mem_cons.mp hk).elim (fun z => z ▸ e) (a k)
      · exact .inr ⟨t, List.mem_cons_of_mem _ t1, t2, fun k hk lt => (List.mem_cons.mp hk).elim (fun z => z ▸ e) (fun z => t3 k z lt)⟩
    · exact .inr ⟨l, List.mem_cons_self .., by omega, fun k hk lt => (List.mem_cons.mp hk).elim (fun z => by omega) (fun z => by have := p1 k z; omega)⟩
theorem hsum_zero : ∀ (ks : List Int) (F : Int → Int), (∀ l ∈ ks, F l = 0) → hsum ks F = 0
  | [], _, _ => rfl
  | l :: r, F, h => by
    rw [hsum_cons, h l (List.mem_cons_self ..), hsum_zero r F fun k hk => h k (List.mem_cons_of_mem _ hk)]; omega
/-- the hours of the longest first are one of the bounds -/
theorem done_is {ls : List Int} {f : Int → Int} (L : Lens ls f) (G : Goes ls) (ws : List Int) (h : ∀ w ∈ ws, 0 ≤ w) :
    done ls f ws = hsum ls f ∨ ∃ t ∈ ls, done ls f ws = bnd ls f ws t := by
  obtain ⟨M, _⟩ := lft_ok ws f L h
  unfold done
  rcases first_left ls (lft ls.reverse f ws) L.up M.non with a | ⟨t, t1, t2, t3⟩
  · left; rw [hsum_zero ls _ a]; omega
  · right
    refine ⟨t, t1, ?_⟩
    have z : hlt ls (lft ls.reverse f ws) t = 0 := hsum_zero _ _ fun l hl => by
      obtain ⟨m1, m2⟩ := List.mem_filter.mp hl
      exact t3 l m1 (by simpa using m2)
    have e := lft_full G t1 ws f L h t2
    have s1 := hsum_split ls f t
    have s2 := hsum_split ls (lft ls.reverse f ws) t
    unfold bnd
    omega

/-- what any filling-in leaves -/
structure Sound (ls : List Int) (f : Int → Int) (ws : List Int) (F : Int → Int) : Prop where
  lo : ∀ l ∈ ls, 0 ≤ F l
  hi : ∀ l ∈ ls, F l ≤ f l
  cut : ∀ t ∈ ls, hge ls f t - hge ls F t ≤ cut ws t
theorem Sound.nil {ls : List Int} {f : Int → Int} (L : Lens ls f) : Sound ls f [] f :=
  ⟨L.non, fun _ _ => Int.le_refl _, fun t _ => by show _ - _ ≤ (0 : Int); omega⟩
theorem Goes.up {ls : List Int} {f : Int → Int} (L : Lens ls f) (G : Goes ls) {t l : Int} (ht : t ∈ ls) (hl : l ∈ ls) (h : t ≤ l) : t ∣ l := by
  by_cases e : t = l
  · subst e; exact Int.dvd_refl _
  · have h2 : t < l := by omega
    obtain ⟨i, hi, ei⟩ := List.getElem_of_mem ht
    obtain ⟨j, hj, ej⟩ := List.getElem_of_mem hl
    have up := List.pairwise_iff_getElem.mp L.up
    have g := List.pairwise_iff_getElem.mp G
    by_cases c : i < j
    · have := g i j hi hj c
      rw [ei, ej] at this; exact this
    · by_cases c2 : j < i
      · have := up j i hj hi c2
        rw [ei, ej] at this; omega
      · have c3 : i = j := by omega
        subst c3; rw [ei] at ej; exact absurd ej e
theorem Sound.more {ls : List Int} {f F x : Int → Int} {ws : List Int} {w : Int} (L : Lens ls f) (G : Goes ls) (S : Sound ls f ws F)
    (hx : ∀ l ∈ ls, 0 ≤ x l ∧ x l ≤ F l) (hs : hsum ls x ≤ w) : Sound ls f (ws ++ [w]) (fun l => F l - x l) := by
  refine ⟨fun l hl => ?_, fun l hl => ?_, fun t ht => ?_⟩
  · have := hx l hl
    show 0 ≤ F l - x l
    omega
  · have a := hx l hl
    have b := S.hi l hl
    show F l - x l ≤ f l
    omega
  · have c := S.cut t ht
    have tp := L.pos t ht
    rw [cut_snoc, hge_sub]
    obtain ⟨q, hq⟩ := hge_dvd ls x t fun l hl h => G.up L ht hl h
    have s := hsum_split ls x t
    have n : 0 ≤ hlt ls x t := hlt_nonneg (fun l hl => ⟨L.pos l hl, (hx l hl).1⟩) t
    have le : t * q ≤ w := by omega
    have d : q ≤ w / t := (Int.le_ediv_iff_mul_le (by omega)).mpr (by rw [Int.mul_comm]; exact le)
    have m : t * q ≤ t * (w / t) := Int.mul_le_mul_of_nonneg_left d (by omega)
    rw [Int.mul_comm t (w / t)] at m
    rw [hq]
    omega
theorem Sound.le_total {ls : List Int} {f F : Int → Int} {ws : List Int} (L : Lens ls f) (S : Sound ls f ws F) : hsum ls f - hsum ls F ≤ hsum ls f := by
  have := hsum_nonneg ls F fun l hl => ⟨L.pos l hl, S.lo l hl⟩
  omega
theorem Sound.le_bnd {ls : List Int} {f F : Int → Int} {ws : List Int} (L : Lens ls f) (S : Sound ls f ws F) {t : Int} (ht : t ∈ ls) : hsum ls f - hsum ls F ≤ bnd ls f ws t := by
  have c := S.cut t ht
  have n : 0 ≤ hlt ls F t := hlt_nonneg (fun l hl => ⟨L.pos l hl, S.lo l hl⟩) t
  have s1 := hsum_split ls f t
  have s2 := hsum_split ls F t
  unfold bnd
  omega
theorem lft_sound {ls : List Int} {f : Int → Int} (L : Lens ls f) (G : Goes ls) (ws : List Int) (h : ∀ w ∈ ws, 0 ≤ w) : Sound ls f ws (lft ls.reverse f ws) := by
  suffices H : ∀ n, n ≤ ws.length → Sound ls f (ws.take n) (lft ls.reverse f (ws.take n)) by
    have := H ws.length (Nat.le_refl _)
    rw [List.take_length] at this; exact this
  intro n
  induction n with
  | zero => intro _; rw [List.take_zero]; exact Sound.nil L
  | succ n ih =>
    intro hn
    have hl : n < ws.length := by omega
    have e : ws.take (n + 1) = ws.take n ++ [ws[n]] := by rw [List.take_add_one, List.getElem?_eq_getElem hl]; rfl
    have S := ih (by omega)
    have hw : 0 ≤ ws[n] := h _ (List.getElem_mem hl)
    have M := (lft_ok (ws.take n) f L fun w hw => h w (List.mem_of_mem_take hw)).1
    rw [e, lft_snoc]
    have g := gr_ok ls.reverse (lft ls.reverse f (ws.take n)) ws[n] (fun k hk => M.both k (List.mem_reverse.mp hk)) M.rnd hw
    refine S.more L G (fun l hl => g.1 l (List.mem_reverse.mpr hl)) ?_
    rw [← hsum_perm (List.reverse_perm ls)]; exact g.2
/-- the hours of the longest first are the least bound -/
theorem done_le {ls : List Int} {f : Int → Int} (L : Lens ls f) (G : Goes ls) (ws : List Int) (h : ∀ w ∈ ws, 0 ≤ w) :
    done ls f ws ≤ hsum ls f ∧ ∀ t ∈ ls, done ls f ws ≤ bnd ls f ws t :=
  ⟨(lft_sound L G ws h).le_total L, fun _ ht => (lft_sound L G ws h).le_bnd L ht⟩
/-- no filling-in has more done than the longest first -/
theorem best_of {ls : List Int} {f F : Int → Int} {ws : List Int} (L : Lens ls f) (G : Goes ls) (h : ∀ w ∈ ws, 0 ≤ w) (S : Sound ls f ws F) :
    hsum ls (lft ls.reverse f ws) ≤ hsum ls F := by
  rcases done_is L G ws h with e | ⟨t, t1, e⟩
  · have := S.le_total L
    unfold done at e; omega
  · have := S.le_bnd L t1
    unfold done at e; omega

/-! ### the bounds in a row -/
/-- the bounds as the law writes them: 0 for all works first, then the lengths -/
def rows (ls : List Int) (f : Int → Int) (ws : List Int) : List (Int × Int) := (0, hsum ls f) :: ls.map fun l => (l, bnd ls f ws l)
/-- the first length whose bound is m -/
def firstL (ls : List Int) (f : Int → Int) (ws : List Int) (m : Int) : List Int := ((rows ls f ws).filter fun p => decide (p.2 = m)).map (·.1)
def lenOf (ls : List Int) (f : Int → Int) (ws : List Int) : Int := (firstL ls f ws (done ls f ws)).headD 0

theorem firstL_ne {ls : List Int} {f : Int → Int} (L : Lens ls f) (G : Goes ls) (ws : List Int) (h : ∀ w ∈ ws, 0 ≤ w) : ∃ r, firstL ls f ws (done ls f ws) = lenOf ls f ws :: r := by
  have ne : firstL ls f ws (done ls f ws) ≠ [] := by
    have : ∃ p ∈ rows ls f ws, p.2 = done ls f ws := by
      rcases done_is L G ws h with e | ⟨t, t1, e⟩
      · exact ⟨_, List.mem_cons_self .., e.symm⟩
      · exact ⟨(t, bnd ls f ws t), List.mem_cons_of_mem _ (List.mem_map.mpr ⟨t, t1, rfl⟩), e.symm⟩
    obtain ⟨p, p1, p2⟩ := this
    intro z
    have m : p.1 ∈ firstL ls f ws (done ls f ws) := List.mem_map.mpr ⟨p, List.mem_filter.mpr ⟨p1, by simpa using p2⟩, rfl⟩
    rw [z] at m; exact List.not_mem_nil m
  unfold lenOf
  cases e : firstL ls f ws (done ls f ws) with
  | nil => exact absurd e ne
  | cons x r => exact ⟨r, rfl⟩
theorem rows_up {ls : List Int} {f : Int → Int} (L : Lens ls f) (ws : List Int) : (rows ls f ws).Pairwise fun a b => a.1 < b.1 := by
  refine List.pairwise_cons.mpr ⟨fun p hp => ?_, ?_⟩
  · obtain ⟨l, l1, rfl⟩ := List.mem_map.mp hp
    have := L.pos l l1
    show 0 < l
    omega
  · rw [List.pairwise_map]; exact L.up
theorem head_least : ∀ (rs : List (Int × Int)) (m : Int) (x : Int) (r : List Int), rs.Pairwise (fun a b => a.1 < b.1) → (rs.filter fun p => decide (p.2 = m)).map (·.1) = x :: r →
    (x, m) ∈ rs ∧ ∀ p ∈ rs, p.2 = m → x ≤ p.1
  | [], _, _, _, _, h => by simp at h
  | q :: rs, m, x, r, pw, h => by
    obtain ⟨p1, p2⟩ := List.pairwise_cons.mp pw
    by_cases c : q.2 = m
    · rw [List.filter_cons_of_pos (by simpa using c), List.map_cons] at h
      have e : q.1 = x := (List.cons.inj h).1
      refine ⟨?_, fun p hp _ => ?_⟩
      · rw [← e, ← c]; exact List.mem_cons_self ..
      · rcases List.mem_cons.mp hp with rfl | z
        · omega
        · have := p1 p z; omega
    · rw [List.filter_cons_of_neg (by simpa using c)] at h
      obtain ⟨a, b⟩ := head_least rs m x r p2 h
      exact ⟨List.mem_cons_of_mem _ a, fun p hp e => (List.mem_cons.mp hp).elim (fun z => absurd (z ▸ e) c) (fun z => b p z e)⟩
/-- the least of the pairs (hours, length) -/
theorem best_row {ls : List Int} {f : Int → Int} (L : Lens ls f) (G : Goes ls) (ws : List Int) (h : ∀ w ∈ ws, 0 ≤ w) (p : Int × Int) (hp : p ∈ rows ls f ws)
    (le : ∀ q ∈ rows ls f ws, p.2 < q.2 ∨ (p.2 = q.2 ∧ p.1 ≤ q.1)) : p = (lenOf ls f ws, done ls f ws) := by
  obtain ⟨r, hr⟩ := firstL_ne L G ws h
  obtain ⟨m1, m2⟩ := head_least (rows ls f ws) (done ls f ws) _ r (rows_up L ws) hr
  have d : ∀ q ∈ rows ls f ws, done ls f ws ≤ q.2 := fun q hq => by
    rcases List.mem_cons.mp hq with rfl | z
    · exact (done_le L G ws h).1
    · obtain ⟨l, l1, rfl⟩ := List.mem_map.mp z
      exact (done_le L G ws h).2 l l1
  have a := d p hp
  have b := le _ m1
  have e2 : p.2 = done ls f ws := by
    rcases b with b | b
    · have b' : p.2 < done ls f ws := b
      omega
    · exact b.1
  have c := m2 p hp e2
  have e1 : p.1 = lenOf ls f ws := by
    rcases b with b | b
    · have b' : p.2 < done ls f ws := b
      omega
    · have b' : p.1 ≤ lenOf ls f ws := b.2
      omega
  rw [← e1, ← e2]
end K81
namespace K81
open PySem PySem.Spec PyProof.Rows L2
section
variable {X : Cx}
/-- C(), C an error class of the program without __init__ -/
theorem own0 {C : Addr} {bmB : List Value} {B newId initId : String} {x : Str} {p pos : Pos} (F : ExcBaseFacts B newId initId bmB) (q : PySem.W.excIn X.K C bmB newId = true)
    (gC : X.mg x = some (.ref C)) (kC : PySem.W.keepIn X.K (.ref C) = true) (r : Raises X (.ref C)) (hg : Gl X x) (hdb : (x == ("__debug__" : Str)) = false := by decide) :
    PMk X (.Call (.Name x p) [] [] pos) (fun _ H Q => Q (.ref C) none H) := by
  intro pins s σ H Q I h
  refine wpAny_Call_Name_kw (ld_glob I hg gC ?_ hdb)
  refine PySem.W.callWith_K0 I.kIn kC ?_
  obtain ⟨bm, N, nm, qn, bs, hdct, sn, sub, ab, col, dd, k0, k1, k2, k3, k5, mN, hC, hN, hni, T⟩ := exc_obj I.kIn q
  exact wpAny_call_exc_subT F T hC hN hni (fun h' e hm => mk_of I hm r h (I.hok.gone hm.new)) (Nat.zero_le _)

/-- sorted(d, reverse=True), d a dict of ints -/
def rSrtD : List V → List V → Hp → VK → Prop := fun vs zs H Q => ∃ (a : Addr) (kvs : List (Key × V)) (ks : List Int), vs = [.ref a] ∧ zs = [.bl true] ∧ Rd H a (.dK kvs) ∧ kvs.map (·.1) = ks.map Sum.inl ∧
  ∀ (ns : List Int) (p : Addr), ns.Perm ks → ns.Pairwise (· ≥ ·) → H p = none → Q (.ref p) (upd H p (.lst (ns.map V.int)))
theorem cr_sortedDRev (hcalm : X.calm = true) : CallRK X (.builtin "sorted") [Str.ofString "reverse"] rSrtD := by
  intro pins s σ H vs zs us ws Q I r rz h
  obtain ⟨a, kvs, ks, rfl, rfl, hd, hks, q⟩ := h
  obtain rfl := Vals.ref1 r
  obtain ⟨w1, rfl, e1⟩ := vals1 rz
  obtain rfl : w1 = Value.bool true := e1
  obtain ⟨z, lo, vs, rel, dd⟩ := dk_rd I.hok hd
  obtain ⟨ep, hat⟩ := dd.dictAt
  have hkeys : vs.map (·.1) = ks.map Sum.inl := rel.keys.symm.trans hks
  have hl : vs.length = ks.length := by
    have e := congrArg List.length hkeys
    rwa [List.length_map, List.length_map] at e
  have h16 : vs.length ≤ sizeLine := by
    rw [← rel.length]
    exact z
  refine call_function_entry_kw kind_sorted plain_sorted entry_sorted (args_sorted_rev _ _) ?_
  unfold Builtin.«sorted»
  refine wpAny_bind (m := checkCount "sorted" 1 1 _) (wpAny_pure ?_)
  refine wpAny_bind (PySem.W.kdu_collect (A := X.A.in1) (PySem.W.kdl_dict (knd := mixKind X.prog X.w) (kvs := vs) (ep := ep) lo) (I.ok.hd hcalm) hat h16 fun h' tk acc hk hacc => ?_)
  have hal : acc.toList.length = ks.length := by
    rw [Array.length_toList, hacc.1, hl]
  have hS : IntsAre acc.toList ks := ints_each hal fun j v e => by
    obtain ⟨k, x, e1, e2⟩ := hacc.2 j v (by rwa [← Array.getElem?_toList])
    have e3 : (vs.map (·.1))[j]? = some k := by simp [e1]
    rw [hkeys, List.getElem?_map] at e3
    cases e4 : ks[j]? with
    | none => simp [e4] at e3
    | some y =>
      rw [e4] at e3
      obtain rfl : Sum.inl y = k := Option.some.inj e3
      rcases keyIs_shape (show keyIs (Sum.inl y) v = true from e2) with ⟨i, t, ek, ev⟩ | ⟨z, t, ek, ev⟩
      · cases ek
        exact ⟨y, t, rfl, ev⟩
      · cases ek
  have I1 : Inv X pins σ H { s with heap := h', toks := tk } := I.kept hk
  have hlz : acc.toList.length ≤ sizeLine := by
    rw [hal, ← hl]
    exact h16
  refine wpAny_bind (wpAny_newList ?_ hlz)
  have hoL : (h'.push (seqObj "list" acc.toList.toArray 0)).get? h'.objs.size = some (seqObj "list" acc.toList.toArray 0) := Heap.get?_push_size _ rfl
  show wpAny _ _ _ _ _ { s with heap := h'.push (seqObj "list" acc.toList.toArray 0), toks := tk }
  refine wpAny_bind (wpAny_holding (wpAny_call_entry_kw slot_list_sort ⟨_, hoL, rfl⟩ entry_list_sort ?_ (args_list_sort_rev _ _)))
  refine SrtR.list_sort_ordR (b := true) SrtO.swo_int hoL hlz (fun h2 => SrtO.ints_sortable hS h2) fun out h1 h2 => ⟨_, rfl, ?_⟩
  obtain ⟨ns', k1, k2, k3⟩ := SrtR.ints_outR hS h1 h2
  have k1' : IntsAre out.toArray.reverse.toList ns' := k1
  obtain ⟨e', he'⟩ := sortedHeap_at (vs := acc.toList) (out := out.toArray.reverse) hoL
  have hlen : (ns'.map V.int).length ≤ sizeLine := by
    rw [List.length_map, k2.length_eq, ← hl]
    exact h16
  have old : ∀ b u, h'.get? b = some u → (sortedHeap (h'.push (seqObj "list" acc.toList.toArray 0)) h'.objs.size acc.toList out.toArray.reverse).get? b = some u := fun b u e => by
    have hb : b < h'.objs.size := Heap.lt_size e
    rw [sortedHeap_old (Nat.ne_of_lt hb) (by rw [size_push']; exact Nat.lt_succ_of_lt hb)]
    exact Heap.get?_push_of_some _ e
  have new : ObjOk X.prog X.w (upd H h'.objs.size (.lst (ns'.map V.int))) (sortedHeap (h'.push (seqObj "list" acc.toList.toArray 0)) h'.objs.size acc.toList out.toArray.reverse) h'.objs.size (.lst (ns'.map V.int)) :=
    ⟨hlen, out.toArray.reverse.toList, e', vals_of_ints k1', by rw [Array.toArray_toList]; exact he'⟩
  exact wpAny_pure ⟨_, rfl, .ref h'.objs.size, _, I1.laid (t' := tk) old (Nat.le_refl _) new, rfl, q ns' _ k2 k3 (I1.hok.fresh (Nat.le_refl _))⟩

/-! ### min of a list of pairs of ints -/
def ltq (a b : Int × Int) : Bool := decide (a.1 < b.1 ∨ (a.1 = b.1 ∧ a.2 < b.2))
theorem lex2 (a b : Int × Int) : HT.lexLt [a.1, a.2] [b.1, b.2] = ltq a b := by
  unfold ltq
  by_cases h1 : a.1 < b.1
  · have h0 : ¬ a.1 = b.1 := by omega
    simp [HT.lexLt, h1, h0]
  · by_cases h2 : a.1 = b.1
    · by_cases h3 : a.2 < b.2 <;> by_cases h4 : a.2 = b.2 <;> simp [HT.lexLt, h2, h3, h4]
    · simp [HT.lexLt, h1, h2]
theorem best_is (f : Nat → Int × Int) : ∀ n, argBest (fun i j => ltq (f i) (f j)) n ≤ n ∧ ∀ j, j ≤ n → ltq (f j) (f (argBest (fun i j => ltq (f i) (f j)) n)) = false
  | 0 => ⟨Nat.le_refl _, fun j hj => by
    obtain rfl : j = 0 := by omega
    show ltq (f 0) (f 0) = false
    unfold ltq
    exact decide_eq_false (by omega)⟩
  | n + 1 => by
    obtain ⟨i1, i2⟩ := best_is f n
    have e : argBest (fun i j => ltq (f i) (f j)) (n + 1) = if ltq (f (n + 1)) (f (argBest (fun i j => ltq (f i) (f j)) n)) = true then n + 1 else argBest (fun i j => ltq (f i) (f j)) n := rfl
    generalize argBest (fun i j => ltq (f i) (f j)) n = m at *
    by_cases c : ltq (f (n + 1)) (f m) = true
    · rw [e, if_pos c]
      refine ⟨Nat.le_refl _, fun j hj => ?_⟩
      unfold ltq at *
      by_cases z : j = n + 1
      · subst z
        exact decide_eq_false (by omega)
      · have := of_decide_eq_false (i2 j (by omega))
        have := of_decide_eq_true c
        exact decide_eq_false (by omega)
    · rw [e, if_neg c]
      refine ⟨by omega, fun j hj => ?_⟩
      by_cases z : j = n + 1
      · subst z
        exact Bool.not_eq_true _ ▸ c
      · exact i2 j (by omega)
theorem getD_of {α : Type} {l : List α} {i : Nat} {d x : α} (h : l[i]? = some x) : l.getD i d = x := by
  rw [List.getD_eq_getElem?_getD, h]
  rfl
def rMinQ (K : PySem.W.Frag) : List V → Hp → VK → Prop := fun vs H Q => ∃ (a : Addr) (ts : List Addr) (ps : List (Int × Int)), vs = [.ref a] ∧ SqL K H a (ts.map V.ref) ∧ ts.length = ps.length ∧ ps ≠ [] ∧
  (∀ (i : Nat) t p, ts[i]? = some t → ps[i]? = some p → SqT K H t [.int p.1, .int p.2]) ∧
  ∀ (i : Nat) (t : Addr) (p : Int × Int), ts[i]? = some t → ps[i]? = some p → (∀ q ∈ ps, p.1 < q.1 ∨ (p.1 = q.1 ∧ p.2 ≤ q.2)) → Q (.ref t) H
theorem cr_minQ (hc : X.calm = true) (hu : X.A.units + 1 < cLine) : CallR X (.builtin "min") (rMinQ X.K) := by
  intro pins s σ H vs us Q I r h
  obtain ⟨a, ts, ps, rfl, hs, hl, hne, ht, q⟩ := h
  obtain ⟨its, rv, hL, hz⟩ := I.list hs
  rw [Vals.ref1 r]
  have hlen : its.toArray.size = ps.length := by
    rw [List.size_toArray, ← rv.length, List.length_map, hl]
  have hit : ∀ (i : Nat) (v : Value), its.toArray[i]? = some v → ∃ t p, v = .ref t ∧ ts[i]? = some t ∧ ps[i]? = some p := fun i v e => by
    have e' : its[i]? = some v := by simpa using e
    have hi : i < its.length := (List.getElem?_eq_some_iff.mp e').1
    have hi2 : i < ts.length := by
      rw [← rv.length, List.length_map] at hi
      exact hi
    have hi3 : i < ps.length := by omega
    obtain ⟨u, e1, e2⟩ := Vals.get (i := i) (x := .ref ts[i]) rv (by rw [List.getElem?_map, List.getElem?_eq_getElem hi2]; rfl)
    rw [e'] at e1
    cases e1
    exact ⟨ts[i], ps[i], e2, List.getElem?_eq_getElem hi2, List.getElem?_eq_getElem hi3⟩
  refine PySem.call_min_walkH (PySem.W.iter_listW (A := X.A.in1) (I.ok.hd hc) hL.isList fun s₂ e W st hfp hw hk => ?_)
  refine ⟨_, _, _, _, _, _, _, s.heap, fun i j => ltq (ps.getD i (0, 0)) (ps.getD j (0, 0)), rfl, W, st, hfp, ?_, hw, hk, ?_, fun v s' hP m => ?_⟩
  · rw [hlen]
    exact List.length_pos_iff.mpr hne
  · intro i j vi vj s' Q' E' hk' hi hj hq
    obtain ⟨t1, p1, rfl, a1, b1⟩ := hit i vi hi
    obtain ⟨t2, p2, rfl, a2, b2⟩ := hit j vj hj
    have I' := I.kept (h' := s.heap) (t' := s.toks) fun _ _ z => z
    obtain ⟨x1, y1, z1, _⟩ := I.tuple (ht i t1 p1 a1 b1)
    obtain ⟨x2, y2, z2, _⟩ := I.tuple (ht j t2 p2 a2 b2)
    have n1 : IntsAre x1.toArray.toList [p1.1, p1.2] := intsAre_of (ns := [p1.1, p1.2]) y1
    have n2 : IntsAre x2.toArray.toList [p2.1, p2.2] := intsAre_of (ns := [p2.1, p2.2]) y2
    refine HT.lt_tupInts (z1.keeps hk') (z2.keeps hk') n1 n2 hu ?_
    have d1 : ps.getD i (0, 0) = p1 := getD_of b1
    have d2 : ps.getD j (0, 0) = p2 := getD_of b2
    have hq : Q' (.bool (ltq (ps.getD i (0, 0)) (ps.getD j (0, 0)))) s' := hq
    rw [d1, d2] at hq
    rw [lex2]
    exact hq
  · obtain ⟨h', tk, rfl, hk'⟩ := PySem.W.moved_old e rfl m
    obtain ⟨t, p, rfl, a1, b1⟩ := hit _ v hP
    have B := best_is (fun i => ps.getD i (0, 0)) (its.toArray.size - 1)
    have d1 : ps.getD (argBest (fun i j => ltq (ps.getD i (0, 0)) (ps.getD j (0, 0))) (its.toArray.size - 1)) (0, 0) = p := getD_of b1
    refine ⟨.ref t, H, I.kept hk', rfl, q _ t p a1 b1 fun y hy => ?_⟩
    obtain ⟨j, hj, ej⟩ := List.getElem_of_mem hy
    have b := B.2 j (by omega)
    have d2 : ps.getD j (0, 0) = y := getD_of (by rw [List.getElem?_eq_getElem hj, ej])
    have b' : ltq (ps.getD j (0, 0)) (ps.getD (argBest (fun i j => ltq (ps.getD i (0, 0)) (ps.getD j (0, 0))) (its.toArray.size - 1)) (0, 0)) = false := b
    rw [d1, d2] at b'
    have := of_decide_eq_false b'
    omega

/-- {t: v}, t a tuple of ints and texts -/
def tDispT (tk tv : TE) : TE := fun σ H Q => ∀ d, H d = none → tk σ (upd H d (.dT [])) fun x H1 => tv σ H1 fun y H2 => H2 d = some (.dT []) ∧ ∃ (b : Addr) (k : List Key), x = .ref b ∧ H2 b = some (.tup (k.map kV)) ∧ Q (.ref d) (upd H2 d (.dT [(k, y)]))
theorem pe_dispT {pos : Pos} {ek ev : Expr} {tk tv : TE} (hu : X.A.units + 1 < cLine) (hk : PE X ek tk) (hv : PE X ev tv) : PE X (.Dict [some ek] [ev] pos) (tDispT tk tv) := by
  refine ⟨fun pins s σ H Q I h => ?_⟩
  have hn := I.hok.fresh (Nat.le_refl s.heap.objs.size)
  have I1 := I.laid (a := s.heap.objs.size) (o := .dT []) (h' := s.heap.push { cls := .type "dict", data := .dict #[] }) (t' := s.toks) (fun _ _ q => Heap.get?_push_of_some _ q) (Nat.le_refl _) (dt_empty s.heap I.big)
  rw [arm_eval_Dict, zip_pairTrees [some ek] [ev] X.env pos rfl rfl, dictDisplay_pairs (pairTrees [some ek] [ev] X.env pos) (fun z => by cases z) (show 1 < 17 by decide)]
  refine wpAny_bind (wpAny_standAt (wpAny_bind ?_))
  refine PySem.wpAny_subDictH (knd := tupleKind (mixKind X.prog X.w)) (Q := fun d s' => wpAny (model X.prog X.w) X.A (pure (Value.ref d)) (EP X pins σ Q) X.xe s') (show X.A.units < cLine by omega) (show 1 ≤ 15 by decide) ?_
  refine pairTrees_cons_walk (thn (hk.run pins _ σ _ _ I1 (h _ hn)) fun u s1 ⟨x, H1, J1, rx, q1⟩ => thn (hv.run pins s1 σ H1 _ J1 q1) fun r s2 ⟨y, H2, J2, ry, ed, b, k, ex, eb, q2⟩ => pairTrees_nil_walk ?_)
  subst ex
  obtain rfl : u = Value.ref b := rx
  obtain ⟨z, lo, xs, rel, dd⟩ := dt_of J2.hok ed
  cases rel
  refine ⟨[(k, b, r)], ⟨rfl, rfl, key_of J2.hok eb, True.intro⟩, dd, fun h' tk dd' hs => wpAny_pure ?_⟩
  obtain ⟨o, es, ep, ho, h2, h3, h4, _, h5⟩ := dd'
  refine ⟨.ref s.heap.objs.size, _, d_write J2 (ob := .dT [(k, y)]) (by rw [ed]; exact True.intro) hs ⟨o, ho⟩ ⟨(by decide : 1 ≤ sizeLine), lo, _, .cons ⟨rfl, ?_, ry⟩ .nil, o, es, ep, ho, h2, h3, h4, h5⟩, rfl, q2⟩
  rw [upd_ne (ne_of eb ed fun z => nomatch z)]
  exact eb
end
end K81
namespace K81
open PySem PySem.Spec PyProof.Rows L2
/-! ### the text -/
def topS (i : Nat) : Stmt := PySem.Challenge.pw_busyfloor_k81_whole_most_done_and_its_bo.main.body.getD i (.Pass ⟨0, 0, 0, 0⟩)
/-! ### names of the built-in things -/
theorem bt_int : bootBuiltins "int" = some (.type "int") := by decide +kernel
theorem bt_bool : bootBuiltins "bool" = some (.type "bool") := by decide +kernel
theorem bt_dict : bootBuiltins "dict" = some (.type "dict") := by decide +kernel
theorem bt_tuple : bootBuiltins "tuple" = some (.type "tuple") := by decide +kernel
theorem bt_list : bootBuiltins "list" = some (.type "list") := by decide +kernel
theorem bt_isinstance : bootBuiltins "isinstance" = some (.builtin "isinstance") := by decide +kernel
theorem bt_len : bootBuiltins "len" = some (.builtin "len") := by decide +kernel
theorem bt_all : bootBuiltins "all" = some (.builtin "all") := by decide +kernel
theorem bt_sum : bootBuiltins "sum" = some (.builtin "sum") := by decide +kernel
theorem bt_min : bootBuiltins "min" = some (.builtin "min") := by decide +kernel
theorem bt_max : bootBuiltins "max" = some (.builtin "max") := by decide +kernel
theorem bt_abs : bootBuiltins "abs" = some (.builtin "abs") := by decide +kernel
theorem bt_sorted : bootBuiltins "sorted" = some (.builtin "sorted") := by decide +kernel
/-- the module's names that are not bound: the built-in things are meant -/
structure Free (mg : Str → Option Value) : Prop where
  int : mg "int" = none
  bool : mg "bool" = none
  dict : mg "dict" = none
  tuple : mg "tuple" = none
  list : mg "list" = none
  isinstance : mg "isinstance" = none
  len : mg "len" = none
  all : mg "all" = none
  sum : mg "sum" = none
  min : mg "min" = none
  max : mg "max" = none
  abs : mg "abs" = none
  sorted : mg "sorted" = none
  range : mg "range" = none
  zip : mg "zip" = none
  enumerate : mg "enumerate" = none
/-- the module's numbers -/
structure Nums (mg : Str → Option Value) : Prop where
  lengths : ∃ t, mg "MOST_LENGTHS" = some (.int 8 t)
  length : ∃ t, mg "MOST_LENGTH" = some (.int 1000000 t)
  works : ∃ t, mg "MOST_WORKS" = some (.int 1000000 t)
  windows : ∃ t, mg "MOST_WINDOWS" = some (.int 40 t)
  window : ∃ t, mg "MOST_WINDOW" = some (.int 1000000000 t)

/-! ### a def that keeps a promise, by its name -/
def Has (P : Program) (w : World) (K : PySem.W.Frag) (mg : Str → Option Value) (base : Heap) (CX : CXT) (x : Str) (k : Nat) (ps : List Str) (sp : Sp) : Prop :=
  ∃ f fd, mg x = some (.ref f) ∧ PySem.W.keepIn K (.ref f) = true ∧ Binds K fd ps [] ∧ FnOk P w K mg base CX k f fd ps sp
/-- a def of the text, by its name -/
def Def (K : PySem.W.Frag) (mg : Str → Option Value) (x : Str) (st : Stmt) (ps : List Str) (f : Addr) (fd : FuncData) : Prop := Fun K x x st f fd ∧ mg x = some (.ref f) ∧ Binds K fd ps []
section
variable {P : Program} {w : World} {K : PySem.W.Frag} {mg : Str → Option Value} {base : Heap} {CX : CXT} {x : Str} {k : Nat} {ps : List Str} {sp : Sp}
theorem Has.of {st : Stmt} {f : Addr} {fd : FuncData} (D : Def K mg x st ps f fd) (G : FnOk P w K mg base CX k f fd ps sp) : Has P w K mg base CX x k ps sp := ⟨f, fd, D.2.1, D.1.kp, D.2.2, G⟩
theorem Has.mono {j : Nat} (h : Has P w K mg base CX x j ps sp) (l : j ≤ k) : Has P w K mg base CX x k ps sp := by
  obtain ⟨f, fd, a, b, c, d⟩ := h
  exact ⟨f, fd, a, b, c, d.mono l⟩
end
section
variable {X : Cx} {CX : CXT} {x : Str} {k : Nat} {ps : List Str} {sp : Sp} {p pos : Pos} {e : Expr} {es : List Expr} {t : TA} {E : XK}
theorem pcallX (G : Has X.prog X.w X.K X.mg X.base CX x k ps sp) (hr : Room k X.A) (hx : Passes CX X E) (ha : PA X (e :: es) t) (hg : Gl X x := by rfl) (hd : (x == ("__debug__" : Str)) = false := by decide)
    (he : starEach (e :: es) X.env = (false, eval e X.env) :: starEach es X.env := by rfl) (hp : (backTo pos (starEach es X.env)).any (·.1) = false := by rfl) : PE X (.Call (.Name x p) (e :: es) [] pos) (tCall sp [] E t) := by
  obtain ⟨f, fd, a, b, c, d⟩ := G
  exact pe_call d hr hg a b c .nil hx ha hd he hp
theorem pcall (G : Has X.prog X.w X.K X.mg X.base CX0 x k ps sp) (hr : Room k X.A) (ha : PA X (e :: es) t) (hg : Gl X x := by rfl) (hd : (x == ("__debug__" : Str)) = false := by decide)
    (he : starEach (e :: es) X.env = (false, eval e X.env) :: starEach es X.env := by rfl) (hp : (backTo pos (starEach es X.env)).any (·.1) = false := by rfl) : PE X (.Call (.Name x p) (e :: es) [] pos) (tCall sp [] E0 t) :=
  pcallX G hr pass0 ha hg hd he hp
theorem pcallS {Es : L2.St → XK} (G : Has X.prog X.w X.K X.mg X.base CX x k ps sp) (hr : Room k X.A) (hx : ∀ σ, PassesAt CX X σ (Es σ)) (ha : PA X (e :: es) t) (hg : Gl X x := by rfl) (hd : (x == ("__debug__" : Str)) = false := by decide)
    (he : starEach (e :: es) X.env = (false, eval e X.env) :: starEach es X.env := by rfl) (hp : (backTo pos (starEach es X.env)).any (·.1) = false := by rfl) : PE X (.Call (.Name x p) (e :: es) [] pos) (tCallS sp Es t) := by
  obtain ⟨f, fd, a, b, c, d⟩ := G
  exact pe_callS d hr hg a b c hx ha hd he hp
/-! ### rules at a named K (within a comprehension) -/
theorem sl_tupK (K : PySem.W.Frag) (hK : X.K = K) : SlR X (rSlA K) := by
  subst hK
  exact sl_tupA
theorem ix_listK (K : PySem.W.Frag) (hK : X.K = K) : IxR X (rIxL K) := by
  subst hK
  exact ix_list
theorem ix_tupK (K : PySem.W.Frag) (hK : X.K = K) : IxR X (rIxT K) := by
  subst hK
  exact ix_tup
theorem minQK (K : PySem.W.Frag) (hK : X.K = K) (hc : X.calm = true) (hu : X.A.units + 1 < cLine) : CallR X (.builtin "min") (rMinQ K) := by
  subst hK
  exact cr_minQ hc hu
theorem sumK (K : PySem.W.Frag) (hK : X.K = K) (hc : X.calm = true) : CallR X (.builtin "sum") (rSum K) := by
  subst hK
  exact cr_sum hc
theorem catK (K : PySem.W.Frag) (hK : X.K = K) : OpR X (binaryOp .Add) (rCatA K) := by
  subst hK
  exact op_catA
def rLenS (K : PySem.W.Frag) : List V → Hp → VK → Prop := fun xs H Q => ∃ p ys, xs = [.ref p] ∧ (SqL K H p ys ∨ SqT K H p ys) ∧ Q (.int ys.length) H
theorem lenK (K : PySem.W.Frag) (hK : X.K = K) : CallR X (.builtin "len") (rLenS K) := by
  subst hK
  exact call_len_seq
end
end K81
namespace K81
open PySem PySem.Spec PyProof.Rows L2
section
variable {P : Program} {w : World} {K : PySem.W.Frag} {mg : Str → Option Value} {base : Heap}
/-! ### is_integer, is_within -/
abbrev sIsInt : Stmt := topS 7
abbrev sWithin : Stmt := topS 8
theorem scIsInt : FnScope ["thing"] ["thing"] (defScope sIsInt) := ⟨rfl, rfl, rfl, by decide +kernel, rfl, by decide +kernel, by decide +kernel⟩
theorem scWithin : FnScope ["thing", "least", "most"] ["thing", "least", "most"] (defScope sWithin) := ⟨rfl, rfl, rfl, by decide +kernel, rfl, by decide +kernel, by decide +kernel⟩
def spIsInt : Sp := fun vs H Q _ => ∃ n, vs = [.int n] ∧ Q (.bl true) H
def spWithin : Sp := fun vs H Q _ => ∃ n a b, vs = [.int n, .int a, .int b] ∧ a ≤ n ∧ n ≤ b ∧ Q (.bl true) H
theorem ok_isint (N : Free mg) {f : Addr} {fd : FuncData} (D : Def K mg "is_integer" sIsInt ["thing"] f fd) : Has P w K mg base CX0 "is_integer" 1 ["thing"] spIsInt := by
  refine .of D (D.1.ok scIsInt (fun vs H Q E h => ?_) (fun cdv A outer s H vs Q E hr h => ?_))
  · obtain ⟨n, rfl, _⟩ := h
    rfl
  · obtain ⟨n, rfl, q⟩ := h
    refine ⟨_, pss_one (ps_ret (pe_and (pe_callB call_isi (by rfl) N.isinstance bt_isinstance (pa_cons (pv 0) (pa_cons (pe_bltn (v := .ty "int") (by rfl) N.int bt_int rfl) pa_nil)))
      (pe_one (pe_not (pe_callB call_isi (by rfl) N.isinstance bt_isinstance (pa_cons (pv 0) (pa_cons (pe_bltn (v := .ty "bool") (by rfl) N.bool bt_bool rfl) pa_nil))))))), ?_⟩
    refine ⟨_, rfl, .int n, .ty "int", .type "int", .type "int", true, rfl, .ty _, .base (.int n), kit_ty (by decide +kernel), true, rfl, iteT ?_⟩
    exact ⟨_, rfl, .int n, .ty "bool", .type "int", .type "bool", false, rfl, .ty _, .base (.int n), kit_ty (by decide +kernel), false, rfl, q⟩
theorem ok_within (G : Has P w K mg base CX0 "is_integer" 1 ["thing"] spIsInt) {f : Addr} {fd : FuncData} (D : Def K mg "is_within" sWithin ["thing", "least", "most"] f fd) : Has P w K mg base CX0 "is_within" 2 ["thing", "least", "most"] spWithin := by
  refine .of D (D.1.ok scWithin (fun vs H Q E h => ?_) (fun cdv A outer s H vs Q E hr h => ?_))
  · obtain ⟨n, a, b, rfl, _⟩ := h
    rfl
  · obtain ⟨n, a, b, rfl, h1, h2, q⟩ := h
    refine ⟨_, pss_one (ps_ret (pe_and (pcall G hr (pa_cons (pv 0) pa_nil)) (pe_one (pe_chain op_le op_le (pv 1) (pv 0) (pv 2))))), ?_⟩
    refine ⟨_, rfl, n, rfl, true, rfl, iteT ?_⟩
    refine ⟨_, rfl, _, rfl, _, _, rfl, rfl, true, ?_, iteT ⟨_, rfl, _, _, rfl, rfl, ?_⟩⟩
    · exact congrArg V.bl (decide_eq_true h1)
    · show Q (.bl (decide (n ≤ b))) H
      rw [decide_eq_true h2]
      exact q
end
end K81
namespace K81
open PySem PySem.Spec PyProof.Rows L2
/-! ### dicts from lengths to numbers -/
def ents (ks : List Int) (f : Int → Int) : List (Key × V) := ks.map fun k => (Sum.inl k, V.int (f k))
def Dk (ks : List Int) (f : Int → Int) : HO := .dK (ents ks f)
theorem ents_len (ks : List Int) (f : Int → Int) : (ents ks f).length = ks.length := List.length_map ..
theorem ents_keys (ks : List Int) (f : Int → Int) : (ents ks f).map (·.1) = ks.map Sum.inl := by
  unfold ents
  rw [List.map_map]
  rfl
theorem ents_at {ks : List Int} {f : Int → Int} {i : Nat} {k : Int} (h : ks[i]? = some k) : (ents ks f)[i]? = some (Sum.inl k, V.int (f k)) := by
  unfold ents
  rw [List.getElem?_map, h]
  rfl
theorem ents_val : ∀ {ks : List Int} {f : Int → Int} {k : Int}, k ∈ ks → valV (ents ks f) (Sum.inl k) = some (.int (f k))
  | [], _, _, h => (List.not_mem_nil h).elim
  | a :: r, f, k, h => by
    by_cases e : a = k
    · subst e
      exact valV_pos (p := (Sum.inl a, V.int (f a))) rfl
    · have h2 : k ∈ r := (List.mem_cons.mp h).resolve_left fun z => e z.symm
      exact (valV_neg (p := (Sum.inl a, V.int (f a))) (fun z => e (Sum.inl.inj z))).trans (ents_val h2)
theorem ents_no {ks : List Int} {f : Int → Int} {k : Int} (h : k ∉ ks) : valV (ents ks f) (Sum.inl k) = none := by
  cases e : valV (ents ks f) (Sum.inl k) with
  | none => rfl
  | some v =>
    have m := valV_in e
    rw [ents_keys] at m
    obtain ⟨x, hx, ex⟩ := List.mem_map.mp m
    exact absurd (Sum.inl.inj ex ▸ hx) h
theorem ents_congr {ks : List Int} {f g : Int → Int} (h : ∀ k ∈ ks, f k = g k) : ents ks f = ents ks g := List.map_congr_left fun k hk => by rw [h k hk]
theorem ents_put {ks : List Int} {f : Int → Int} {k : Int} (h : k ∉ ks) : putK (ents ks f) (Sum.inl k) (.int (f k)) = ents (ks ++ [k]) f := by
  rw [putK_new _ (ents_no h)]
  unfold ents
  rw [List.map_append]
  rfl
theorem Dk_get {H : Hp} {d : Addr} {ks : List Int} {f : Int → Int} {k : Int} (h : Rd H d (Dk ks f)) (hk : k ∈ ks) : DGet H d (.int k) (some (.int (f k))) := .inl ⟨_, Sum.inl k, h, rfl, (ents_val hk).symm⟩
theorem take_at {α : Type} {l : List α} {i : Nat} {x : α} (h : l[i]? = some x) : l.take (i + 1) = l.take i ++ [x] := by
  rw [List.take_add_one, h]
  rfl
theorem nd_take {l : List Int} (h : l.Nodup) {i : Nat} {x : Int} (e : l[i]? = some x) : x ∉ l.take i := fun m => by
  obtain ⟨j, hj, ej⟩ := List.getElem_of_mem m
  rw [List.length_take] at hj
  obtain ⟨hi, ei⟩ := List.getElem?_eq_some_iff.mp e
  rw [List.getElem_take] at ej
  have : j = i := (List.getElem_inj h).mp (ej.trans ei.symm)
  omega

/-! ### heaps -/
theorem same_new {H : Hp} {p : Addr} {o : HO} (h : H p = none) : Same H (upd H p o) := fun b x e => by
  rw [upd_ne (ne_of_none e h)]
  exact e
/-- a new object is changed: what stood ahead of it stands -/
theorem same_up {H H' : Hp} {p : Addr} {o : HO} (h : H p = none) (s : Same H H') : Same H (upd H' p o) := fun b x e => by
  rw [upd_ne (ne_of_none e h)]
  exact s b x e
theorem same_rd {H H' : Hp} {a : Addr} {o : HO} (s : Same H H') (h : Rd H a o) : Rd H' a o := h.elim (fun e => .inl (s _ _ e)) fun ⟨o, e⟩ => .inr ⟨o, s _ _ e⟩
theorem same_sqt {K : PySem.W.Frag} {H H' : Hp} {a : Addr} {xs : List V} (s : Same H H') (h : SqT K H a xs) : SqT K H' a xs := h.elim (fun e => .inl (same_rd s e)) .inr
theorem relock {H : Hp} {a d : Addr} {x o : HO} (e : H a = some x) (n : a ≠ d) : upd H d o a = some x := by
  rw [upd_ne n]
  exact e
theorem unlock {H H' : Hp} {d : Addr} {u o : HO} (h : H d = some u) (s : Same (upd H d o) H') : Same H (upd H' d u) := fun b x e => by
  by_cases z : b = d
  · subst z
    rw [h] at e
    rw [upd_same]
    exact e
  · rw [upd_ne z]
    exact s b x (relock e z)
theorem free_lock {H : Hp} {a d : Addr} {u o : HO} (h : H d = some u) (n : upd H d o a = none) : H a = none ∧ a ≠ d := by
  by_cases z : a = d
  · subst z
    rw [upd_same] at n
    cases n
  · rw [upd_ne z] at n
    exact ⟨n, z⟩
/-- a list of ints, tuples of ints -/
def Ls (ns : List Int) : HO := .lst (ns.map V.int)
def Tp (ns : List Int) : HO := .tup (ns.map V.int)
theorem ints_at {ns : List Int} {i : Nat} {x : V} (h : (ns.map V.int)[i]? = some x) : ∃ n, ns[i]? = some n ∧ x = .int n := by
  rw [List.getElem?_map] at h
  cases e : ns[i]? with
  | none =>
    rw [e] at h
    cases h
  | some n =>
    rw [e] at h
    exact ⟨n, rfl, (Option.some.inj h).symm⟩
theorem at_ints {ns : List Int} {i : Nat} {n : Int} (h : ns[i]? = some n) : (ns.map V.int)[i]? = some (.int n) := by
  rw [List.getElem?_map, h]
  rfl
theorem refs_at {ts : List Addr} {i : Nat} {x : V} (h : (ts.map V.ref)[i]? = some x) : ∃ t, ts[i]? = some t ∧ x = .ref t := by
  rw [List.getElem?_map] at h
  cases e : ts[i]? with
  | none =>
    rw [e] at h
    cases h
  | some n =>
    rw [e] at h
    exact ⟨n, rfl, (Option.some.inj h).symm⟩
theorem at_refs {ts : List Addr} {i : Nat} {n : Addr} (h : ts[i]? = some n) : (ts.map V.ref)[i]? = some (.ref n) := by
  rw [List.getElem?_map, h]
  rfl
theorem line1000 {n : Nat} (h : n ≤ 1000) : n ≤ sizeLine := Nat.le_of_lt (small1000 h)

/-! ### comprehensions -/
theorem yes {σ : L2.St} {H : Hp} {Q : Bool → Hp → Prop} (h : Q true H) : tYes σ H Q := h
/-- the list at D holds the first j of xs; what stood ahead of it stands -/
structure Pm (H1 : Hp) (D : Addr) (xs : List V) (j : Nat) (H : Hp) : Prop where
  new : H1 D = none
  same : Same H1 H
  at_ : H D = some (.lst (xs.take j))
  few : xs.length ≤ 1000
theorem Pm.fin {H1 H' H4 : Hp} {D : Addr} {xs : List V} {j : Nat} {y : V} (p : Pm H1 D xs j H') (s : Same H' H4) (e : xs[j]? = some y) :
    ∃ acc, H4 D = some (.lst acc) ∧ acc.length < sizeLine ∧ Pm H1 D xs (j + 1) (upd H4 D (.lst (acc ++ [y]))) := by
  refine ⟨xs.take j, s _ _ p.at_, ?_, p.new, same_up p.new (p.same.trans s), ?_, p.few⟩
  · rw [List.length_take]
    exact Nat.lt_of_le_of_lt (Nat.min_le_right _ _) (small1000 p.few)
  · rw [upd_same, take_at e]
theorem Pm.start {H1 : Hp} {D : Addr} {xs : List V} (n : H1 D = none) (f : xs.length ≤ 1000) : Pm H1 D xs 0 (upd H1 D (.lst [])) := ⟨n, same_new n, upd_same, f⟩
/-- any walk of plain things: the list made is xs -/
theorem lc_m {J : It} {n : Nat} {G : Hp → Prop} {Y : Nat → Hp → V → Hp → Prop} (w : Walk J n G Y) {g : TG} {tt : TT} {te : TE} {vs : List Nat} {σ : L2.St} {H1 : Hp} {D : Addr} {Qd : Hp → Prop} (xs : List V) (hn : xs.length = n) (few : xs.length ≤ 1000) (nD : H1 D = none)
    (hG : ∀ H, Same H1 H → G H)
    (hs : ∀ i x H H', i < n → Pm H1 D xs i H → Y i H x H' → g x (wipe σ vs) H' fun σ2 H2 => wipe σ2 vs = wipe σ vs ∧ tt σ2 H2 fun b H3 =>
      if b = true then te σ2 H3 fun y H4 => ∃ acc, H4 D = some (.lst acc) ∧ acc.length < sizeLine ∧ Pm H1 D xs (i + 1) (upd H4 D (.lst (acc ++ [y]))) else Pm H1 D xs (i + 1) H3)
    (hd : ∀ H, Same H1 H → H D = some (.lst xs) → Qd H) :
    ∃ W : Nat → Nat → Hp → Prop, (∃ m, W 0 m (upd H1 D (.lst []))) ∧ ∀ i m H, W i m H →
      (J.stop i H ∧ Qd H) ∨ (J.go i H ∧ ∃ Nx : Hp → Prop, (∀ H', Nx H' → ∃ m', m' < m ∧ W (i + 1) m' H') ∧ ∀ x H', J.yld i H x H' → g x (wipe σ vs) H' fun σ2 H2 => wipe σ2 vs = wipe σ vs ∧ tt σ2 H2 fun b H3 =>
        if b = true then te σ2 H3 fun y H4 => ∃ acc, H4 D = some (.lst acc) ∧ acc.length < sizeLine ∧ Nx (upd H4 D (.lst (acc ++ [y]))) else Nx H3) :=
  lc_it w (Pm H1 D xs) (.start nD few) (fun _ H _ p => hG H p.same) hs fun H p => hd H p.same (by
    have e := p.at_
    rw [← hn, List.take_length] at e
    exact e)
/-- for k in d, under the lock: [.. for k in d] is xs -/
theorem keys_m {g : TG} {tt : TT} {te : TE} {vs : List Nat} {σ : L2.St} {H : Hp} {Q : VK} {i : Nat} {d : Addr} {ks : List Int} {f : Int → Int} (xs : List V) (hσ : σ[i]? = some (some (.ref d))) (hd : H d = some (Dk ks f)) (hn : xs.length = ks.length) (few : ks.length ≤ 1000)
    (hs : ∀ (od : Obj) (D : Addr) (j : Nat) (k : Int) (H' : Hp), ks[j]? = some k → D ≠ d → Pm (upd H d (.frz od (Dk ks f))) D xs j H' → g (.int k) (wipe σ vs) H' fun σ2 H2 => wipe σ2 vs = wipe σ vs ∧ tt σ2 H2 fun b H3 =>
      if b = true then te σ2 H3 fun y H4 => ∃ acc, H4 D = some (.lst acc) ∧ acc.length < sizeLine ∧ Pm (upd H d (.frz od (Dk ks f))) D xs (j + 1) (upd H4 D (.lst (acc ++ [y]))) else Pm (upd H d (.frz od (Dk ks f))) D xs (j + 1) H3)
    (q : ∀ (H' : Hp) (D : Addr), Same H H' → H D = none → H' D = some (.lst xs) → Q (.ref D) H') : tLockE (tLc (iKeys (tVar i)) g tt te vs) σ H Q := by
  refine ⟨d, Dk ks f, hd, True.intro, fun od => ⟨.ref d, hσ, d, od, rfl, .inl ⟨ents ks f, upd_same, fun D nD => ?_⟩⟩⟩
  obtain ⟨fD, ne⟩ := free_lock hd nD
  refine lc_m walk_keys xs (by rw [hn, ents_len]) (by rw [hn]; exact few) nD (fun H' s => s _ _ upd_same) (fun j x H1 H2 hj p y => ?_) fun H' s e => ⟨s _ _ upd_same, q _ D (unlock hd s) fD (by rw [upd_ne ne]; exact e)⟩
  obtain ⟨rfl, k, v, e1, rfl⟩ := y
  rw [ents_len] at hj
  have e2 := (ents_at (f := f) (List.getElem?_eq_getElem hj)).symm.trans e1
  have e3 : Sum.inl ks[j] = k := (Prod.mk.inj (Option.some.inj e2)).1
  subst e3
  exact hs od D j ks[j] H2 (List.getElem?_eq_getElem hj) ne p
/-- for k, v in d.items(), under the lock -/
theorem items_m {g : TG} {tt : TT} {te : TE} {vs : List Nat} {σ : L2.St} {H : Hp} {Q : VK} {i : Nat} {d : Addr} {ks : List Int} {f : Int → Int} (xs : List V) (hσ : σ[i]? = some (some (.ref d))) (hd : H d = some (Dk ks f)) (hn : xs.length = ks.length) (few : ks.length ≤ 1000)
    (hs : ∀ (od : Obj) (D : Addr) (j : Nat) (k : Int) (H' : Hp) (T : Addr), ks[j]? = some k → D ≠ d → H' T = none → Pm (upd H d (.frz od (Dk ks f))) D xs j H' → g (.ref T) (wipe σ vs) (upd H' T (.tup [.int k, .int (f k)])) fun σ2 H2 => wipe σ2 vs = wipe σ vs ∧ tt σ2 H2 fun b H3 =>
      if b = true then te σ2 H3 fun y H4 => ∃ acc, H4 D = some (.lst acc) ∧ acc.length < sizeLine ∧ Pm (upd H d (.frz od (Dk ks f))) D xs (j + 1) (upd H4 D (.lst (acc ++ [y]))) else Pm (upd H d (.frz od (Dk ks f))) D xs (j + 1) H3)
    (q : ∀ (H' : Hp) (D : Addr), Same H H' → H D = none → H' D = some (.lst xs) → Q (.ref D) H') : tLockE (tLc (iItems (tVar i)) g tt te vs) σ H Q := by
  refine ⟨d, Dk ks f, hd, True.intro, fun od => ⟨.ref d, hσ, d, od, ents ks f, rfl, upd_same, fun D nD => ?_⟩⟩
  obtain ⟨fD, ne⟩ := free_lock hd nD
  refine lc_m walk_items xs (by rw [hn, ents_len]) (by rw [hn]; exact few) nD (fun H' s => s _ _ upd_same) (fun j x H1 H2 hj p y => ?_) fun H' s e => ⟨s _ _ upd_same, q _ D (unlock hd s) fD (by rw [upd_ne ne]; exact e)⟩
  obtain ⟨T, x, y, rfl, nT, rfl, e1, e2⟩ := y
  rw [ents_len] at hj
  have e3 := ents_at (f := f) (List.getElem?_eq_getElem hj)
  have e1 : (ents ks f)[j]?.map (fun kv => kV kv.1) = some x := e1
  have e2 : (ents ks f)[j]?.map Prod.snd = some y := e2
  rw [e3] at e1 e2
  obtain rfl := Option.some.inj e1
  obtain rfl := Option.some.inj e2
  exact hs od D j ks[j] H1 T (List.getElem?_eq_getElem hj) ne nT p
/-- for x in t, t a tuple that stands still -/
theorem tupv_m {K : PySem.W.Frag} {g : TG} {tt : TT} {te : TE} {vs : List Nat} {σ : L2.St} {H : Hp} {Q : VK} {i : Nat} {t : Addr} {zs : List V} (xs : List V) (hσ : σ[i]? = some (some (.ref t))) (ht : SqT K H t zs) (hn : xs.length = zs.length) (few : zs.length ≤ 1000)
    (hs : ∀ (D : Addr) (j : Nat) (z : V) (H' : Hp), zs[j]? = some z → Pm H D xs j H' → g z (wipe σ vs) H' fun σ2 H2 => wipe σ2 vs = wipe σ vs ∧ tt σ2 H2 fun b H3 =>
      if b = true then te σ2 H3 fun y H4 => ∃ acc, H4 D = some (.lst acc) ∧ acc.length < sizeLine ∧ Pm H D xs (j + 1) (upd H4 D (.lst (acc ++ [y]))) else Pm H D xs (j + 1) H3)
    (q : ∀ (H' : Hp) (D : Addr), Same H H' → H D = none → H' D = some (.lst xs) → Q (.ref D) H') : tLc (iTup K (tVar i)) g tt te vs σ H Q := by
  refine ⟨.ref t, hσ, t, rfl, ⟨_, ht⟩, fun D nD => ?_⟩
  refine lc_m walk_tup xs hn (by rw [hn]; exact few) nD (fun H' s => same_sqt s ht) (fun j x H1 H2 hj p y => ?_) fun H' s e => q H' D s nD e
  obtain ⟨rfl, e1⟩ := y
  exact hs D j x H2 e1 p
/-- for x in t, t a tuple of ints that stands still -/
theorem tup_m {K : PySem.W.Frag} {g : TG} {tt : TT} {te : TE} {vs : List Nat} {σ : L2.St} {H : Hp} {Q : VK} {i : Nat} {t : Addr} {ns : List Int} (xs : List V) (hσ : σ[i]? = some (some (.ref t))) (ht : SqT K H t (ns.map V.int)) (hn : xs.length = ns.length) (few : ns.length ≤ 1000)
    (hs : ∀ (D : Addr) (j : Nat) (n : Int) (H' : Hp), ns[j]? = some n → Pm H D xs j H' → g (.int n) (wipe σ vs) H' fun σ2 H2 => wipe σ2 vs = wipe σ vs ∧ tt σ2 H2 fun b H3 =>
      if b = true then te σ2 H3 fun y H4 => ∃ acc, H4 D = some (.lst acc) ∧ acc.length < sizeLine ∧ Pm H D xs (j + 1) (upd H4 D (.lst (acc ++ [y]))) else Pm H D xs (j + 1) H3)
    (q : ∀ (H' : Hp) (D : Addr), Same H H' → H D = none → H' D = some (.lst xs) → Q (.ref D) H') : tLc (iTup K (tVar i)) g tt te vs σ H Q := by
  refine ⟨.ref t, hσ, t, rfl, ⟨_, ht⟩, fun D nD => ?_⟩
  refine lc_m walk_tup xs (by rw [hn, List.length_map]) (by rw [hn]; exact few) nD (fun H' s => same_sqt s ht) (fun j x H1 H2 hj p y => ?_) fun H' s e => q H' D s nD e
  obtain ⟨rfl, e1⟩ := y
  obtain ⟨n, e2, rfl⟩ := ints_at e1
  exact hs D j n H2 e2 p
/-- for k in range(n) -/
theorem range_m {ta : TA} {g : TG} {tt : TT} {te : TE} {vs : List Nat} {σ : L2.St} {H H1 : Hp} {Q : VK} {n : Nat} (xs : List V) (hta : ∀ R : List V → Hp → Prop, R [.int n] H1 → ta σ H R) (hn : xs.length = n) (few : n ≤ 1000)
    (hs : ∀ (D : Addr) (j : Nat) (H' : Hp), j < n → Pm H1 D xs j H' → g (.int j) (wipe σ vs) H' fun σ2 H2 => wipe σ2 vs = wipe σ vs ∧ tt σ2 H2 fun b H3 =>
      if b = true then te σ2 H3 fun y H4 => ∃ acc, H4 D = some (.lst acc) ∧ acc.length < sizeLine ∧ Pm H1 D xs (j + 1) (upd H4 D (.lst (acc ++ [y]))) else Pm H1 D xs (j + 1) H3)
    (q : ∀ (H' : Hp) (D : Addr), Same H1 H' → H1 D = none → H' D = some (.lst xs) → Q (.ref D) H') : tLc (iRng1 ta) g tt te vs σ H Q := by
  refine hta _ ⟨n, rfl, by omega, by omega, fun D nD => ?_⟩
  refine lc_m (n := n) walk_range xs hn (by rw [hn]; exact few) nD (fun _ _ => True.intro) (fun j x H1 H2 hj p y => ?_) fun H' s e => q H' D s nD e
  obtain ⟨rfl, rfl⟩ := y
  have e : (0 : Int) + (j : Int) = (j : Int) := Int.zero_add _
  have r := hs D j H2 hj p
  rw [← e] at r
  exact r
/-! ### dict comprehensions -/
structure Pd (H1 : Hp) (D : Addr) (ks : List Int) (g : Int → Int) (j : Nat) (H : Hp) : Prop where
  new : H1 D = none
  same : Same H1 H
  at_ : H D = some (Dk (ks.take j) g)
  few : ks.length ≤ 1000
  nd : ks.Nodup
theorem Pd.fin {H1 H' H5 : Hp} {D : Addr} {ks : List Int} {g : Int → Int} {j : Nat} {k : Int} (p : Pd H1 D ks g j H') (s : Same H' H5) (e : ks[j]? = some k) :
    ∃ (kvs : List (Key × V)) (k' : Key), V.int k = kV k' ∧ H5 D = some (.dK kvs) ∧ kvs.length < sizeLine ∧ Pd H1 D ks g (j + 1) (upd H5 D (.dK (putK kvs k' (.int (g k))))) := by
  refine ⟨_, Sum.inl k, rfl, s _ _ p.at_, ?_, p.new, same_up p.new (p.same.trans s), ?_, p.few, p.nd⟩
  · rw [ents_len, List.length_take]
    exact Nat.lt_of_le_of_lt (Nat.min_le_right _ _) (small1000 p.few)
  · rw [upd_same, ents_put (nd_take p.nd e), take_at e]
    rfl
theorem keys_d {g : TG} {tt : TT} {tk tv : TE} {vs : List Nat} {σ : L2.St} {H : Hp} {Q : VK} {i : Nat} {d : Addr} {ks : List Int} {f : Int → Int} (r : Int → Int) (hσ : σ[i]? = some (some (.ref d))) (hd : H d = some (Dk ks f)) (nd : ks.Nodup) (few : ks.length ≤ 1000)
    (hs : ∀ (od : Obj) (D : Addr) (j : Nat) (k : Int) (H' : Hp), ks[j]? = some k → D ≠ d → Pd (upd H d (.frz od (Dk ks f))) D ks r j H' → g (.int k) (wipe σ vs) H' fun σ2 H2 => wipe σ2 vs = wipe σ vs ∧ tt σ2 H2 fun b H3 =>
      if b = true then tk σ2 H3 fun y H4 => tv σ2 H4 fun z H5 => ∃ (kvs : List (Key × V)) (k' : Key), y = kV k' ∧ H5 D = some (.dK kvs) ∧ kvs.length < sizeLine ∧ Pd (upd H d (.frz od (Dk ks f))) D ks r (j + 1) (upd H5 D (.dK (putK kvs k' z)))
      else Pd (upd H d (.frz od (Dk ks f))) D ks r (j + 1) H3)
    (q : ∀ (H' : Hp) (D : Addr), Same H H' → H D = none → H' D = some (Dk ks r) → Q (.ref D) H') : tLockE (tDc (iKeys (tVar i)) g tt tk tv vs) σ H Q := by
  refine ⟨d, Dk ks f, hd, True.intro, fun od => ⟨.ref d, hσ, d, od, rfl, .inl ⟨ents ks f, upd_same, fun D nD => ?_⟩⟩⟩
  obtain ⟨fD, ne⟩ := free_lock hd nD
  refine ⟨fun j m H' => m = ks.length - j ∧ j ≤ ks.length ∧ Pd (upd H d (.frz od (Dk ks f))) D ks r j H', ⟨ks.length, rfl, Nat.zero_le _, nD, same_new nD, upd_same, few, nd⟩, ?_⟩
  rintro j m H' ⟨rfl, hj, p⟩
  by_cases lt : j < ks.length
  · refine .inr ⟨⟨p.same _ _ upd_same, by rw [ents_len]; exact lt⟩, Pd (upd H d (.frz od (Dk ks f))) D ks r (j + 1), fun H2 p2 => ⟨ks.length - (j + 1), by omega, rfl, lt, p2⟩, fun x H2 y => ?_⟩
    obtain ⟨rfl, k, v, e1, rfl⟩ := y
    have e2 := (ents_at (f := f) (List.getElem?_eq_getElem lt)).symm.trans e1
    have e3 : Sum.inl ks[j] = k := (Prod.mk.inj (Option.some.inj e2)).1
    subst e3
    exact hs od D j ks[j] H2 (List.getElem?_eq_getElem lt) ne p
  · have e : j = ks.length := by omega
    subst e
    have a := p.at_
    rw [List.take_length] at a
    exact .inl ⟨⟨p.same _ _ upd_same, by rw [ents_len]; exact Nat.le_refl _⟩, p.same _ _ upd_same, q _ D (unlock hd p.same) fD (by rw [upd_ne ne]; exact a)⟩
/-! ### lists by their places -/
def tab (n : Nat) (F : Nat → Int) : List Int := (List.range n).map F
theorem tab_len (n : Nat) (F : Nat → Int) : (tab n F).length = n := by
  unfold tab
  rw [List.length_map, List.length_range]
theorem tab_at {n : Nat} {F : Nat → Int} {i : Nat} (h : i < n) : (tab n F)[i]? = some (F i) := by
  unfold tab
  rw [List.getElem?_map, List.getElem?_range h]
  rfl
theorem tab_eq {n : Nat} {F : Nat → Int} {l : List Int} (hl : l.length = n) (h : ∀ i, i < n → l[i]? = some (F i)) : l = tab n F := by
  refine List.ext_getElem? fun i => ?_
  by_cases c : i < n
  · rw [h i c, tab_at c]
  · rw [List.getElem?_eq_none (by omega), List.getElem?_eq_none (by rw [tab_len]; omega)]
theorem tab_congr {n : Nat} {F G : Nat → Int} (h : ∀ i, i < n → F i = G i) : tab n F = tab n G := tab_eq (tab_len n F) fun i hi => by rw [tab_at hi, h i hi]
def sums (ns : List Int) : List Int := tab ns.length fun i => (ns.take (i + 1)).sum
/-- hours of the longest first, window by window; what is done by the end of each; by which length it is bound -/
def hls (ls : List Int) (f : Int → Int) (ws : List Int) : List Int := tab ws.length fun i => hsum ls.reverse (gr ls.reverse (lft ls.reverse f (ws.take i)) (ws.getD i 0))
def dones (ls : List Int) (f : Int → Int) (ws : List Int) : List Int := tab ws.length fun k => done ls f (ws.take (k + 1))
def lens (ls : List Int) (f : Int → Int) (ws : List Int) : List Int := tab ws.length fun k => lenOf ls f (ws.take (k + 1))
theorem sums_hls (ls : List Int) (f : Int → Int) (ws : List Int) : sums (hls ls f ws) = dones ls f ws := by
  have len : (hls ls f ws).length = ws.length := tab_len ..
  have H : ∀ n, n ≤ ws.length → ((hls ls f ws).take n).sum = done ls f (ws.take n) := by
    intro n
    induction n with
    | zero =>
      intro _
      show (0 : Int) = hsum ls f - hsum ls f
      omega
    | succ n ih =>
      intro h
      have hn : n < ws.length := by omega
      have ew : ws[n]? = some ws[n] := List.getElem?_eq_getElem hn
      have eg : ws.getD n 0 = ws[n] := getD_of ew
      have et : (hls ls f ws)[n]? = some (hsum ls.reverse (gr ls.reverse (lft ls.reverse f (ws.take n)) (ws.getD n 0))) := tab_at hn
      rw [take_at et, List.sum_append, ih (by omega), take_at ew, eg]
      unfold done
      rw [lft_snoc, hsum_sub, hsum_perm (List.reverse_perm ls)]
      simp only [List.sum_cons, List.sum_nil]
      omega
  unfold sums dones
  rw [len]
  exact tab_congr fun i hi => H (i + 1) hi
theorem up_uniq : ∀ {a b : List Int}, a.Perm b → a.Pairwise (· ≤ ·) → b.Pairwise (· ≤ ·) → a = b
  | [], b, p, _, _ => (List.nil_perm.mp p).symm
  | x :: a, [], p, _, _ => absurd p.length_eq (by simp)
  | x :: a, y :: b, p, h1, h2 => by
    obtain ⟨a1, a2⟩ := List.pairwise_cons.mp h1
    obtain ⟨b1, b2⟩ := List.pairwise_cons.mp h2
    have e : x = y := by
      have m1 : x ∈ y :: b := p.mem_iff.mp (List.mem_cons_self ..)
      have m2 : y ∈ x :: a := p.mem_iff.mpr (List.mem_cons_self ..)
      rcases List.mem_cons.mp m1 with z | z
      · exact z
      · rcases List.mem_cons.mp m2 with z2 | z2
        · exact z2.symm
        · have := a1 y z2
          have := b1 x z
          omega
    subst e
    rw [up_uniq p.cons_inv a2 b2]
/-! ### comprehensions with a test -/
structure Pf (H1 : Hp) (D : Addr) (ks : List Int) (keep : Int → Bool) (val : Int → V) (j : Nat) (H : Hp) : Prop where
  new : H1 D = none
  same : Same H1 H
  at_ : H D = some (.lst (((ks.take j).filter keep).map val))
  few : ks.length ≤ 1000
theorem Pf.yes {H1 H' H4 : Hp} {D : Addr} {ks : List Int} {keep : Int → Bool} {val : Int → V} {j : Nat} {k : Int} (p : Pf H1 D ks keep val j H') (s : Same H' H4) (e : ks[j]? = some k) (c : keep k = true) :
    ∃ acc, H4 D = some (.lst acc) ∧ acc.length < sizeLine ∧ Pf H1 D ks keep val (j + 1) (upd H4 D (.lst (acc ++ [val k]))) := by
  refine ⟨_, s _ _ p.at_, ?_, p.new, same_up p.new (p.same.trans s), ?_, p.few⟩
  · rw [List.length_map]
    refine Nat.lt_of_le_of_lt (Nat.le_trans (List.length_filter_le _ _) ?_) (small1000 p.few)
    rw [List.length_take]
    exact Nat.min_le_right _ _
  · rw [upd_same, take_at e, List.filter_append, List.filter_cons_of_pos c, List.map_append]
    rfl
theorem Pf.no {H1 H' H4 : Hp} {D : Addr} {ks : List Int} {keep : Int → Bool} {val : Int → V} {j : Nat} {k : Int} (p : Pf H1 D ks keep val j H') (s : Same H' H4) (e : ks[j]? = some k) (c : keep k = false) : Pf H1 D ks keep val (j + 1) H4 := by
  refine ⟨p.new, p.same.trans s, ?_, p.few⟩
  rw [s _ _ p.at_, take_at e, List.filter_append, List.filter_cons_of_neg (by rw [c]; exact Bool.false_ne_true), List.filter_nil, List.append_nil]
theorem keys_f {g : TG} {tt : TT} {te : TE} {vs : List Nat} {σ : L2.St} {H : Hp} {Q : VK} {i : Nat} {d : Addr} {ks : List Int} {f : Int → Int} (keep : Int → Bool) (val : Int → V) (hσ : σ[i]? = some (some (.ref d))) (hd : H d = some (Dk ks f)) (few : ks.length ≤ 1000)
    (hs : ∀ (od : Obj) (D : Addr) (j : Nat) (k : Int) (H' : Hp), ks[j]? = some k → D ≠ d → Pf (upd H d (.frz od (Dk ks f))) D ks keep val j H' → g (.int k) (wipe σ vs) H' fun σ2 H2 => wipe σ2 vs = wipe σ vs ∧ tt σ2 H2 fun b H3 =>
      if b = true then te σ2 H3 fun y H4 => ∃ acc, H4 D = some (.lst acc) ∧ acc.length < sizeLine ∧ Pf (upd H d (.frz od (Dk ks f))) D ks keep val (j + 1) (upd H4 D (.lst (acc ++ [y]))) else Pf (upd H d (.frz od (Dk ks f))) D ks keep val (j + 1) H3)
    (q : ∀ (H' : Hp) (D : Addr), Same H H' → H D = none → H' D = some (.lst ((ks.filter keep).map val)) → Q (.ref D) H') : tLockE (tLc (iKeys (tVar i)) g tt te vs) σ H Q := by
  refine ⟨d, Dk ks f, hd, True.intro, fun od => ⟨.ref d, hσ, d, od, rfl, .inl ⟨ents ks f, upd_same, fun D nD => ?_⟩⟩⟩
  obtain ⟨fD, ne⟩ := free_lock hd nD
  refine lc_it walk_keys (Pf (upd H d (.frz od (Dk ks f))) D ks keep val) ⟨nD, same_new nD, upd_same, few⟩ (fun i H' _ p => p.same _ _ upd_same) (fun j x H1 H2 hj p y => ?_) fun H' p => ⟨p.same _ _ upd_same, q _ D (unlock hd p.same) fD (by
    rw [upd_ne ne]
    have a := p.at_
    rw [ents_len, List.take_length] at a
    exact a)⟩
  obtain ⟨rfl, k, v, e1, rfl⟩ := y
  rw [ents_len] at hj
  have e2 := (ents_at (f := f) (List.getElem?_eq_getElem hj)).symm.trans e1
  have e3 : Sum.inl ks[j] = k := (Prod.mk.inj (Option.some.inj e2)).1
  subst e3
  exact hs od D j ks[j] H2 (List.getElem?_eq_getElem hj) ne p
/-! ### slices -/
theorem cut_head (xs : List V) (k : Nat) : cutV xs none (some (k : Int)) = xs.take k := by
  unfold cutV
  rw [HT.sIx_none, HT.sIx_nat, List.drop_zero, Nat.sub_zero]
  by_cases c : k ≤ xs.length
  · rw [Nat.min_eq_left c]
  · rw [Nat.min_eq_right (by omega), List.take_length, List.take_of_length_le (by omega)]
theorem cut_tail (xs : List V) (k : Nat) : cutV xs (some (k : Int)) none = xs.drop k := by
  unfold cutV
  rw [HT.sIx_none, HT.sIx_nat]
  by_cases c : k ≤ xs.length
  · rw [Nat.min_eq_left c]
    exact List.take_of_length_le (by rw [List.length_drop]; exact Nat.le_refl _)
  · rw [Nat.min_eq_right (by omega), List.drop_length, List.drop_eq_nil_of_le (by omega), List.take_nil]
/-- t[:k], t a tuple: itself, or a new one -/
theorem head_tup {K : PySem.W.Frag} {H : Hp} {a : Addr} {ws : List Int} {k : Nat} {Q : VK} (h : H a = some (Tp ws)) (q : ∀ (H' : Hp) (p : Addr), Same H H' → H' p = some (Tp (ws.take k)) → Q (.ref p) H') : rSlA K (.ref a) none (some (k : Int)) H Q := by
  refine ⟨a, ws.map V.int, rfl, .inl (.inl h), fun c => q H a (.refl _) ?_, fun _ p np => q _ p (same_new np) ?_⟩
  · have c2 := c.2
    rw [HT.sIx_nat, List.length_map] at c2
    rw [h, List.take_of_length_le (by omega)]
  · rw [upd_same, cut_head, ← List.map_take]
    rfl
end K81
namespace K81
open PySem PySem.Spec PyProof.Rows L2
/-- a right heap, as its dict says it -/
structure HeapOk (ks : List Int) (f : Int → Int) : Prop where
  one : 1 ≤ ks.length
  few : ks.length ≤ 8
  nd : ks.Nodup
  pos : ∀ k ∈ ks, 1 ≤ k
  top : ∀ k ∈ ks, k ≤ 1000000
  non : ∀ k ∈ ks, 0 ≤ f k
  lot : ∀ k ∈ ks, f k ≤ 1000000
structure WinOk (ws : List Int) : Prop where
  few : ws.length ≤ 40
  non : ∀ w ∈ ws, 0 ≤ w
  top : ∀ w ∈ ws, w ≤ 1000000000
section
variable {P : Program} {w : World} {K : PySem.W.Frag} {mg : Str → Option Value} {base : Heap}
/-! ### hours_in -/
abbrev sHours : Stmt := topS 17
theorem scHours : FnScope ["works", "length", "many"] ["works"] (defScope sHours) := ⟨rfl, rfl, rfl, by decide +kernel, rfl, by decide +kernel, by decide +kernel⟩
def spHours : Sp := fun vs H Q _ => ∃ d ks f, vs = [.ref d] ∧ H d = some (Dk ks f) ∧ ks.length ≤ 1000 ∧ (∀ k ∈ ks, 1 ≤ k ∧ k ≤ 1000000) ∧ ∀ H', Same H H' → Q (.int (hsum ks f)) H'
theorem big {n : Int} (h : 1 ≤ n ∧ n ≤ 1000000) : -(2 ^ 64) < n ∧ n < 2 ^ 64 := by omega
theorem ok_hours (N : Free mg) {f : Addr} {fd : FuncData} (D : Def K mg "hours_in" sHours ["works"] f fd) : Has P w K mg base CX0 "hours_in" 1 ["works"] spHours := by
  refine .of D (D.1.ok scHours (fun vs H Q E h => ?_) (fun cdv A outer s H vs Q E hr h => ?_))
  · obtain ⟨d, ks, f, rfl, _⟩ := h
    rfl
  · obtain ⟨d, ks, f, rfl, hd, few, hb, q⟩ := h
    refine ⟨_, pss_one (ps_ret (pe_callB (cr_sum rfl) (by rfl) N.sum bt_sum (pa_cons (pe_lock (pe_lc (own := [("length", 1), ("many", 2)]) (g := gTup K 2 (gCons (gName 1) (gCons (gName 2) gNil))) rfl scHours.nd (pi_items (pv 0)) (blkOk_by (N := ["works", "length", "many"]) (sc := defScope sHours) (by decide +kernel))
      (fun _ _ _ _ _ => pg_tup rfl (pgs_cons (pg_name (i := 1) scHours.nd rfl (.inl rfl)) (pgs_cons (pg_name (i := 2) scHours.nd rfl (.inl rfl)) pgs_nil))) (fun _ _ _ _ _ => pts_nil) (fun _ _ _ _ _ => pe_op op_mul (pv 1) (pv 2)))) pa_nil))), ?_⟩
    refine items_m (ks.map fun k => V.int (k * f k)) rfl hd (List.length_map ..) few (fun od L j k H' T hk ne nT p => ?_) fun H' L sm nL e => ⟨L, ks.map fun k => k * f k, rfl, .inl (.inl ?_), q H' sm⟩
    · have hm : k ∈ ks := List.mem_of_getElem? hk
      refine ⟨T, [.int k, .int (f k)], rfl, .inl (.inl upd_same), rfl, _, _, rfl, _, _, rfl, rfl, rfl, yes (iteT ?_)⟩
      refine ⟨_, rfl, _, rfl, _, _, rfl, rfl, .inl (big (hb k hm)), p.fin (same_new nT) ?_⟩
      rw [List.getElem?_map, hk]
      rfl
    · rw [List.map_map]
      exact e
end
end K81
namespace K81
open PySem PySem.Spec PyProof.Rows L2
section
variable {P : Program} {w : World} {K : PySem.W.Frag} {mg : Str → Option Value} {base : Heap}
/-! ### is_heap, check_heap -/
abbrev sHeap : Stmt := topS 15
abbrev sCheck : Stmt := topS 16
theorem scHeap : FnScope ["thing", "length"] ["thing"] (defScope sHeap) := ⟨rfl, rfl, rfl, by decide +kernel, rfl, by decide +kernel, by decide +kernel⟩
theorem scCheck : FnScope ["heap", "windows", "window"] ["heap", "windows"] (defScope sCheck) := ⟨rfl, rfl, rfl, by decide +kernel, rfl, by decide +kernel, by decide +kernel⟩
def spHeap : Sp := fun vs H Q _ => ∃ d ks f, vs = [.ref d] ∧ H d = some (Dk ks f) ∧ HeapOk ks f ∧ ∀ H', Same H H' → Q (.bl true) H'
def spCheck : Sp := fun vs H Q _ => ∃ d ks f t ws, vs = [.ref d, .ref t] ∧ H d = some (Dk ks f) ∧ HeapOk ks f ∧ H t = some (Tp ws) ∧ WinOk ws ∧ ∀ H', Same H H' → Q .non H'
theorem all_true (n : Nat) : (List.replicate n true).all id = true := by
  rw [List.all_eq_true]
  intro b hb
  exact (List.mem_replicate.mp hb).2
theorem rep_bl (n : Nat) : (List.replicate n true).map V.bl = List.replicate n (V.bl true) := List.map_replicate
theorem rep_at {α : Type} {n j : Nat} {x : α} (h : j < n) : (List.replicate n x)[j]? = some x := by
  rw [List.getElem?_replicate, if_pos h]
theorem ok_heap (N : Free mg) (M : Nums mg) (G : Has P w K mg base CX0 "is_within" 2 ["thing", "least", "most"] spWithin) {f : Addr} {fd : FuncData} (D : Def K mg "is_heap" sHeap ["thing"] f fd) :
    Has P w K mg base CX0 "is_heap" 3 ["thing"] spHeap := by
  obtain ⟨t1, m1⟩ := M.lengths
  obtain ⟨t2, m2⟩ := M.length
  obtain ⟨t3, m3⟩ := M.works
  refine .of D (D.1.ok scHeap (fun vs H Q E h => ?_) (fun cdv A outer s H vs Q E hr h => ?_))
  · obtain ⟨d, ks, f, rfl, _⟩ := h
    rfl
  · obtain ⟨d, ks, f, rfl, hd, ok, q⟩ := h
    refine ⟨_, pss_cons (ps_if (PW.pt (pw_or (pt_not (pt_val (pe_callB call_isi (by rfl) N.isinstance bt_isinstance (pa_cons (pv 0) (pa_cons (pe_bltn (v := .ty "dict") (by rfl) N.dict bt_dict rfl) pa_nil)))))
        (pw_or1 (pt_not (pt_chain op_le op_le pe_int (pe_callB call_lenD (by rfl) N.len bt_len (pa_cons (pv 0) pa_nil)) (pe_glob (v := .int 8) rfl m1 ⟨_, rfl⟩))))))
        (pss_one (ps_ret pe_bl)) pss_nil)
      (pss_one (ps_ret (pe_callB (cr_all rfl) (by rfl) N.all bt_all (pa_cons (pe_lock (pe_lc (own := [("length", 1)]) (g := gName 1) (tt := tYes) rfl scHeap.nd (pi_keys (pv 0)) (blkOk_by (N := ["thing", "length"]) (sc := defScope sHeap) (by decide +kernel))
        (fun _ _ _ _ _ => pg_name (i := 1) scHeap.nd rfl (.inl rfl)) (fun _ _ _ _ _ => pts_nil) (fun _ _ _ _ _ => pe_and (pcall G hr (pa_cons (pv 1) (pa_cons pe_int (pa_cons (pe_glob (v := .int 1000000) rfl m2 ⟨_, rfl⟩) pa_nil))))
          (pe_one (pcall G hr (pa_cons (pe_dget (hu_of hr) (pv 0) (pv 1) (fun _ _ => rfl)) (pa_cons pe_int (pa_cons (pe_glob (v := .int 1000000) rfl m3 ⟨_, rfl⟩) pa_nil)))))))) pa_nil)))), ?_⟩
    refine ⟨_, rfl, .ref d, .ty "dict", .type "dict", .type "dict", true, rfl, .ty _, .base (.dK hd), kit_ty (by decide +kernel), true, rfl, iteF ?_⟩
    refine ⟨_, rfl, d, _, rfl, hd, _, _, rfl, rfl, true, ?_, iteT ⟨_, _, rfl, rfl, true, ?_, iteF ?_⟩⟩
    · rw [ents_len]
      exact congrArg V.bl (decide_eq_true (by have := ok.one; omega))
    · rw [ents_len]
      exact congrArg V.bl (decide_eq_true (by have := ok.few; omega))
    · refine keys_m (List.replicate ks.length (.bl true)) rfl hd List.length_replicate (by have := ok.few; omega) (fun od L j k H' hk ne p => ?_) fun H' L sm nL e => ⟨L, List.replicate ks.length true, rfl, .inl (.inl ?_), ?_⟩
      · have hm : k ∈ ks := List.mem_of_getElem? hk
        have hj : j < ks.length := (List.getElem?_eq_some_iff.mp hk).1
        refine ⟨rfl, yes (iteT ?_)⟩
        refine ⟨_, rfl, k, 1, 1000000, rfl, ok.pos k hm, ok.top k hm, true, rfl, iteT ?_⟩
        refine ⟨_, rfl, _, rfl, d, .int (f k), rfl, Dk_get (same_rd p.same (.inr ⟨od, upd_same⟩)) hm, f k, 0, 1000000, rfl, ok.non k hm, ok.lot k hm, ?_⟩
        exact p.fin (.refl _) (rep_at hj)
      · rw [rep_bl]
        exact e
      · rw [all_true]
        exact q H' sm
theorem ok_check (N : Free mg) (M : Nums mg) (GH : Has P w K mg base CX0 "is_heap" 3 ["thing"] spHeap) (G : Has P w K mg base CX0 "is_within" 2 ["thing", "least", "most"] spWithin) {f : Addr} {fd : FuncData} (D : Def K mg "check_heap" sCheck ["heap", "windows"] f fd) :
    Has P w K mg base CX0 "check_heap" 4 ["heap", "windows"] spCheck := by
  obtain ⟨t1, m1⟩ := M.windows
  obtain ⟨t2, m2⟩ := M.window
  refine .of D (D.1.ok scCheck (fun vs H Q E h => ?_) (fun cdv A outer s H vs Q E hr h => ?_))
  · obtain ⟨d, ks, f, t, ws, rfl, _⟩ := h
    rfl
  · obtain ⟨d, ks, f, t, ws, rfl, hd, ok, ht, wo, q⟩ := h
    refine ⟨_, pss_cons (ps_if (pt_not (pt_val (pcall GH hr (pa_cons (pv 0) pa_nil)))) pss_never pss_nil)
      (pss_cons (ps_if (PW.pt (pw_or (pt_not (pt_val (pe_callB call_isi (by rfl) N.isinstance bt_isinstance (pa_cons (pv 1) (pa_cons (pe_bltn (v := .ty "tuple") (by rfl) N.tuple bt_tuple rfl) pa_nil)))))
        (pw_or1 (pt_cmpR op_gt (pe_callB call_len_seq (by rfl) N.len bt_len (pa_cons (pv 1) pa_nil)) (pe_glob (v := .int 40) rfl m1 ⟨_, rfl⟩) (nomark _))))) pss_never pss_nil)
      (pss_one (ps_if (pt_not (pt_val (pe_callB (cr_all rfl) (by rfl) N.all bt_all (pa_cons (pe_lc (own := [("window", 2)]) (g := gName 2) (tt := tYes) rfl scCheck.nd (pi_tup (pv 1)) (blkOk_by (N := ["heap", "windows", "window"]) (sc := defScope sCheck) (by decide +kernel))
        (fun _ _ _ _ _ => pg_name (i := 2) scCheck.nd rfl (.inl rfl)) (fun _ _ _ _ _ => pts_nil) (fun _ _ _ _ _ => pcall G (hr.mono (by decide)) (pa_cons (pv 2) (pa_cons pe_int (pa_cons (pe_glob (v := .int 1000000000) rfl m2 ⟨_, rfl⟩) pa_nil))))) pa_nil)))) pss_never pss_nil))), ?_⟩
    refine ⟨_, rfl, d, ks, f, rfl, hd, ok, fun H1 s1 => ⟨true, rfl, iteF ?_⟩⟩
    have ht1 := s1 _ _ ht
    refine ⟨_, rfl, .ref t, .ty "tuple", .type "tuple", .type "tuple", true, rfl, .ty _, .base (.tup ht1), kit_ty (by decide +kernel), true, rfl, iteF ?_⟩
    refine ⟨_, rfl, t, _, rfl, .inr (.inl (.inl ht1)), _, _, rfl, rfl, _, rfl, ?_⟩
    rw [List.length_map, decide_eq_false (by have := wo.few; omega)]
    refine iteF ?_
    dsimp only [tNext, tIfS, tNot, tB, tCB, tCons]
    refine tup_m (K := K) (List.replicate ws.length (.bl true)) rfl (.inl (.inl ht1)) List.length_replicate (by have := wo.few; omega) (fun L j n H' hk p => ?_) fun H' L sm nL e => ⟨L, List.replicate ws.length true, rfl, .inl (.inl ?_), true, ?_, iteF (q H' (s1.trans sm))⟩
    · have hm : n ∈ ws := List.mem_of_getElem? hk
      have hj : j < ws.length := (List.getElem?_eq_some_iff.mp hk).1
      exact ⟨rfl, yes (iteT ⟨_, rfl, n, 0, 1000000000, rfl, wo.non n hm, wo.top n hm, p.fin (.refl _) (rep_at hj)⟩)⟩
    · rw [rep_bl]
      exact e
    · rw [all_true]
end
end K81
namespace K81
open PySem PySem.Spec PyProof.Rows L2
section
variable {P : Program} {w : World} {K : PySem.W.Frag} {mg : Str → Option Value} {base : Heap}
/-! ### is_key, is_part_of, taken_from -/
abbrev sKey : Stmt := topS 21
abbrev sPart : Stmt := topS 18
abbrev sTaken : Stmt := topS 19
theorem scKey : FnScope ["thing", "heap"] ["thing", "heap"] (defScope sKey) := ⟨rfl, rfl, rfl, by decide +kernel, rfl, by decide +kernel, by decide +kernel⟩
theorem scPart : FnScope ["left", "window", "works", "length"] ["left", "window", "works"] (defScope sPart) := ⟨rfl, rfl, rfl, by decide +kernel, rfl, by decide +kernel, by decide +kernel⟩
theorem scTaken : FnScope ["left", "works", "length"] ["left", "works"] (defScope sTaken) := ⟨rfl, rfl, rfl, by decide +kernel, rfl, by decide +kernel, by decide +kernel⟩
def spKey : Sp := fun vs H Q _ => ∃ k d ks f, vs = [.int k, .ref d] ∧ H d = some (Dk ks f) ∧ k ∈ ks ∧ 1 ≤ k ∧ k ≤ 1000000 ∧ Q (.bl true) H
def spPart : Sp := fun vs H Q _ => ∃ d ks f w e ds g, vs = [.ref d, .int w, .ref e] ∧ H d = some (Dk ks f) ∧ H e = some (Dk ds g) ∧ d ≠ e ∧ ds.length ≤ 1000 ∧ (∀ k ∈ ds, k ∈ ks ∧ 1 ≤ k ∧ k ≤ 1000000 ∧ 0 ≤ g k ∧ g k ≤ f k) ∧ hsum ds g ≤ w ∧
  ∀ H', Same H H' → Q (.bl true) H'
def spTaken : Sp := fun vs H Q _ => ∃ d ks f e ds g, vs = [.ref d, .ref e] ∧ H d = some (Dk ks f) ∧ H e = some (Dk ds g) ∧ d ≠ e ∧ ks.length ≤ 1000 ∧ ks.Nodup ∧ (∀ k ∈ ks, k ∈ ds) ∧
  ∀ H' p, Same H H' → H p = none → H' p = some (Dk ks fun k => f k - g k) → Q (.ref p) H'
theorem ok_key (M : Nums mg) (G : Has P w K mg base CX0 "is_within" 2 ["thing", "least", "most"] spWithin) {f : Addr} {fd : FuncData} (D : Def K mg "is_key" sKey ["thing", "heap"] f fd) :
    Has P w K mg base CX0 "is_key" 3 ["thing", "heap"] spKey := by
  obtain ⟨t2, m2⟩ := M.length
  refine .of D (D.1.ok scKey (fun vs H Q E h => ?_) (fun cdv A outer s H vs Q E hr h => ?_))
  · obtain ⟨k, d, ks, f, rfl, _⟩ := h
    rfl
  · obtain ⟨k, d, ks, f, rfl, hd, hk, h1, h2, q⟩ := h
    refine ⟨_, pss_one (ps_ret (pe_and (pcall G hr (pa_cons (pv 0) (pa_cons pe_int (pa_cons (pe_glob (v := .int 1000000) rfl m2 ⟨_, rfl⟩) pa_nil)))) (pe_one (pe_cmp (pc_din (hu_of hr) (pv 0) (pv 1)) rfl)))), ?_⟩
    refine ⟨_, rfl, k, 1, 1000000, rfl, h1, h2, true, rfl, iteT ?_⟩
    refine ⟨_, rfl, _, rfl, d, _, rfl, Dk_get (.inl hd) hk, ?_⟩
    exact q
theorem ok_part (N : Free mg) (G : Has P w K mg base CX0 "is_within" 2 ["thing", "least", "most"] spWithin) (GS : Has P w K mg base CX0 "hours_in" 1 ["works"] spHours) {f : Addr} {fd : FuncData} (D : Def K mg "is_part_of" sPart ["left", "window", "works"] f fd) :
    Has P w K mg base CX0 "is_part_of" 3 ["left", "window", "works"] spPart := by
  refine .of D (D.1.ok scPart (fun vs H Q E h => ?_) (fun cdv A outer s H vs Q E hr h => ?_))
  · obtain ⟨d, ks, f, w, e, ds, g, rfl, _⟩ := h
    rfl
  · obtain ⟨d, ks, f, w, e, ds, g, rfl, hd, he, ne, few, ok, fit, q⟩ := h
    refine ⟨_, pss_cons (ps_if (pt_not (pt_val (pe_callB (cr_all rfl) (by rfl) N.all bt_all (pa_cons (pe_lock (pe_lc (own := [("length", 3)]) (g := gName 3) (tt := tYes) rfl scPart.nd (pi_keys (pv 2)) (blkOk_by (N := ["left", "window", "works", "length"]) (sc := defScope sPart) (by decide +kernel))
        (fun _ _ _ _ _ => pg_name (i := 3) scPart.nd rfl (.inl rfl)) (fun _ _ _ _ _ => pts_nil) (fun _ _ _ _ _ => pe_and (pe_cmp (pc_din (hu_of hr) (pv 3) (pv 0)) rfl)
          (pe_one (pcall G hr (pa_cons (pe_dget (hu_of hr) (pv 2) (pv 3) (fun _ _ => rfl)) (pa_cons pe_int (pa_cons (pe_dget (hu_of hr) (pv 0) (pv 3) (fun _ _ => rfl)) pa_nil)))))))) pa_nil)))) pss_never pss_nil)
      (pss_one (ps_ret (pe_cmpR op_le (pcall GS (hr.mono (by decide)) (pa_cons (pv 2) pa_nil)) (pv 1) (nomark _)))), ?_⟩
    dsimp only [tSeq, tIfS, tNot, tB, tCB, tCons]
    refine keys_m (List.replicate ds.length (.bl true)) rfl he List.length_replicate few (fun od L j k H' hk nl p => ?_) fun H' L sm nL el => ⟨L, List.replicate ds.length true, rfl, .inl (.inl ?_), true, ?_, iteF ?_⟩
    · have hm : k ∈ ds := List.mem_of_getElem? hk
      have hj : j < ds.length := (List.getElem?_eq_some_iff.mp hk).1
      obtain ⟨o1, o2, o3, o4, o5⟩ := ok k hm
      have hd' : H' d = some (Dk ks f) := p.same _ _ (relock hd ne)
      refine ⟨rfl, yes (iteT ?_)⟩
      refine ⟨_, rfl, _, rfl, d, _, rfl, Dk_get (.inl hd') o1, true, rfl, iteT ?_⟩
      refine ⟨_, rfl, _, rfl, e, .int (g k), rfl, Dk_get (same_rd p.same (.inr ⟨od, upd_same⟩)) hm, _, rfl, _, rfl, d, .int (f k), rfl, Dk_get (.inl hd') o1, g k, 0, f k, rfl, o4, o5, ?_⟩
      exact p.fin (.refl _) (rep_at hj)
    · rw [rep_bl]
      exact el
    · rw [all_true]
    · refine ⟨_, rfl, e, ds, g, rfl, sm _ _ he, few, fun k hk => ⟨(ok k hk).2.1, (ok k hk).2.2.1⟩, fun H2 s2 => ⟨_, rfl, _, _, rfl, rfl, ?_⟩⟩
      show Q (.bl (decide (hsum ds g ≤ w))) H2
      rw [decide_eq_true fit]
      exact q H2 (sm.trans s2)
theorem ok_taken {f : Addr} {fd : FuncData} (D : Def K mg "taken_from" sTaken ["left", "works"] f fd) :
    Has P w K mg base CX0 "taken_from" 1 ["left", "works"] spTaken := by
  refine .of D (D.1.ok scTaken (fun vs H Q E h => ?_) (fun cdv A outer s H vs Q E hr h => ?_))
  · obtain ⟨d, ks, f, e, ds, g, rfl, _⟩ := h
    rfl
  · obtain ⟨d, ks, f, e, ds, g, rfl, hd, he, ne, few, nd, ok, q⟩ := h
    refine ⟨_, pss_one (ps_ret (pe_lock (pe_dc (own := [("length", 2)]) (g := gName 2) (tt := tYes) rfl scTaken.nd (pi_keys (pv 0)) (blkOk_by (N := ["left", "works", "length"]) (sc := defScope sTaken) (by decide +kernel))
        (fun _ _ _ _ _ => pg_name (i := 2) scTaken.nd rfl (.inl rfl)) (fun _ _ _ _ _ => pts_nil) (fun _ _ _ _ _ => pv 2)
        (fun _ _ _ _ _ => pe_op op_sub (pe_dget (hu_of hr) (pv 0) (pv 2) (fun _ _ => rfl)) (pe_dget2 (hu_of hr) (pv 1) (pv 2) pe_int ⟨rfl, rfl, rfl, rfl⟩))))), ?_⟩
    refine keys_d (fun k => f k - g k) rfl hd nd few (fun od L j k H' hk nl p => ?_) fun H' L sm nL el => q H' L sm nL el
    have hm : k ∈ ks := List.mem_of_getElem? hk
    have he' : H' e = some (Dk ds g) := p.same _ _ (relock he ne.symm)
    refine ⟨rfl, yes (iteT ⟨_, rfl, ?_⟩)⟩
    refine ⟨_, rfl, _, rfl, d, _, rfl, Dk_get (same_rd p.same (.inr ⟨od, upd_same⟩)) hm, _, rfl, e, rfl, .inl ⟨_, .inl he'⟩, _, rfl, _, Dk_get (.inl he') (ok k hm), ?_⟩
    exact ⟨_, _, rfl, rfl, p.fin (.refl _) hk⟩
end
end K81
namespace K81
open PySem PySem.Spec PyProof.Rows L2
/-- the lengths of a heap, ascending -/
structure Srt (ls ks : List Int) : Prop where
  perm : ls.Perm ks
  up : ls.Pairwise (fun a b => a < b)
theorem Srt.mem {ls ks : List Int} (s : Srt ls ks) {k : Int} : k ∈ ls ↔ k ∈ ks := s.perm.mem_iff
theorem Srt.len {ls ks : List Int} (s : Srt ls ks) : ls.length = ks.length := s.perm.length_eq
theorem HeapOk.lens {ls ks : List Int} {f : Int → Int} (ok : HeapOk ks f) (s : Srt ls ks) : Lens ls f := ⟨s.up, fun l h => ok.pos l (s.mem.mp h), fun l h => ok.non l (s.mem.mp h)⟩
section
variable {P : Program} {w : World} {K : PySem.W.Frag} {mg : Str → Option Value} {base : Heap}
/-! ### is_filling -/
abbrev sFilling : Stmt := topS 20
theorem scFilling : FnScope ["heap", "windows", "thing", "left", "window", "works", "key"] ["heap", "windows", "thing"] (defScope sFilling) := ⟨rfl, rfl, rfl, by decide +kernel, rfl, by decide +kernel, by decide +kernel⟩
/-- the dicts at es tell what the longest first puts into each window -/
def Fills (H : Hp) (ls : List Int) (f : Int → Int) (ws : List Int) (es : List Addr) : Prop :=
  ∀ (i : Nat) e w, es[i]? = some e → ws[i]? = some w → H e = some (Dk ls.reverse (gr ls.reverse (lft ls.reverse f (ws.take i)) w))
def spFilling : Sp := fun vs H Q _ => ∃ d ks f t ws u es ls, vs = [.ref d, .ref t, .ref u] ∧ H d = some (Dk ks f) ∧ HeapOk ks f ∧ H t = some (Tp ws) ∧ WinOk ws ∧ H u = some (.tup (es.map V.ref)) ∧ es.length = ws.length ∧ Srt ls ks ∧ Fills H ls f ws es ∧ (∀ e ∈ es, e ≠ d) ∧
  ∀ H', Same H H' → Q (.bl true) H'
theorem ok_filling (N : Free mg) (GK : Has P w K mg base CX0 "is_key" 3 ["thing", "heap"] spKey) (GP : Has P w K mg base CX0 "is_part_of" 3 ["left", "window", "works"] spPart) (GT : Has P w K mg base CX0 "taken_from" 1 ["left", "works"] spTaken)
    {f : Addr} {fd : FuncData} (D : Def K mg "is_filling" sFilling ["heap", "windows", "thing"] f fd) : Has P w K mg base CX0 "is_filling" 4 ["heap", "windows", "thing"] spFilling := by
  refine .of D (D.1.ok scFilling (fun vs H Q E h => ?_) (fun cdv A outer s H vs Q E hr h => ?_))
  · obtain ⟨d, ks, f, t, ws, u, es, ls, rfl, _⟩ := h
    rfl
  · obtain ⟨d, ks, f, t, ws, u, es, ls, rfl, hd, ok, ht, wo, hu, hl, sr, fl, ne, q⟩ := h
    refine ⟨_, pss_cons (ps_if (PW.pt (pw_or (pt_not (pt_val (pe_callB call_isi (by rfl) N.isinstance bt_isinstance (pa_cons (pv 2) (pa_cons (pe_bltn (v := .ty "tuple") (by rfl) N.tuple bt_tuple rfl) pa_nil)))))
        (pw_or1 (pt_cmpR op_ne (pe_callB call_len_seq (by rfl) N.len bt_len (pa_cons (pv 2) pa_nil)) (pe_callB call_len_seq (by rfl) N.len bt_len (pa_cons (pv 1) pa_nil)) (nomark _))))) pss_never pss_nil)
      (pss_cons (ps_set (i := 3) scFilling.nd rfl (.inl rfl) (pv 0))
      (pss_cons (ps_for PassesOwn.never rfl (RZ.pi_zipA (by rfl) N.zip (pa_cons (pv 1) (pa_cons (pv 2) pa_nil))) (pg_tup rfl (pgs_cons (pg_name (i := 4) scFilling.nd rfl (.inl rfl)) (pgs_cons (pg_name (i := 5) scFilling.nd rfl (.inl rfl)) pgs_nil)))
        (pss_cons (ps_if (PW.pt (pw_or (pt_not (pt_val (pe_callB call_isi (by rfl) N.isinstance bt_isinstance (pa_cons (pv 5) (pa_cons (pe_bltn (v := .ty "dict") (by rfl) N.dict bt_dict rfl) pa_nil)))))
            (pw_or (pt_cmpR op_ne (pe_callB call_lenD (by rfl) N.len bt_len (pa_cons (pv 5) pa_nil)) (pe_callB call_lenD (by rfl) N.len bt_len (pa_cons (pv 0) pa_nil)) (nomark _))
            (pw_or1 (pt_not (pt_val (pe_callB (cr_all rfl) (by rfl) N.all bt_all (pa_cons (pe_lock (pe_lc (own := [("key", 6)]) (g := gName 6) (tt := tYes) rfl scFilling.nd (pi_keys (pv 5)) (blkOk_by (N := ["heap", "windows", "thing", "left", "window", "works", "key"]) (sc := defScope sFilling) (by decide +kernel))
              (fun _ _ _ _ _ => pg_name (i := 6) scFilling.nd rfl (.inl rfl)) (fun _ _ _ _ _ => pts_nil) (fun _ _ _ _ _ => pcall GK hr (pa_cons (pv 6) (pa_cons (pv 0) pa_nil))))) pa_nil)))))))) pss_never pss_nil)
        (pss_cons (ps_if (pt_not (pt_val (pcall GP hr (pa_cons (pv 3) (pa_cons (pv 4) (pa_cons (pv 5) pa_nil)))))) pss_never pss_nil)
        (pss_one (ps_set (i := 3) scFilling.nd rfl (.inl rfl) (pcall GT (hr.mono (by decide)) (pa_cons (pv 3) (pa_cons (pv 5) pa_nil))))))))
      (pss_one (ps_ret pe_bl)))), ?_⟩
    refine ⟨_, rfl, .ref u, .ty "tuple", .type "tuple", .type "tuple", true, rfl, .ty _, .base (.tup hu), kit_ty (by decide +kernel), true, rfl, iteF ?_⟩
    refine ⟨_, rfl, u, _, rfl, .inr (.inl (.inl hu)), _, rfl, t, _, rfl, .inr (.inl (.inl ht)), rfl, _, rfl, iteNS ?_ ?_⟩
    · rw [List.length_map, List.length_map, hl]
    refine ⟨_, rfl, ?_⟩
    refine ⟨_, rfl, _, rfl, t, u, ws.map V.int, es.map V.ref, rfl, .inr ⟨.inl (.inl ht), .inl (.inl hu), ?_⟩⟩
    refine RZ.for_zipT (K := K) (xs := ws.map V.int) (ys := es.map V.ref) (by rw [List.length_map, List.length_map, hl]) (fun i σ H' => ∃ a x4 x5 x6, σ = [some (.ref d), some (.ref t), some (.ref u), some (.ref a), x4, x5, x6] ∧ Same H H' ∧ H' a = some (Dk ks (lft ls.reverse f (ws.take i))) ∧ ∀ e ∈ es, e ≠ a)
      ⟨d, none, none, none, rfl, .refl _, hd, ne⟩ (fun i σ H' ⟨_, _, _, _, _, sm, _⟩ => ⟨same_sqt sm (.inl (.inl ht)), same_sqt sm (.inl (.inl hu))⟩) ?_ ?_
    · rintro i x y T σ H' hx hy ⟨a, x4, x5, x6, rfl, sm, ha, na⟩ nT
      obtain ⟨v, hv, rfl⟩ := ints_at hx
      obtain ⟨e, he, rfl⟩ := refs_at hy
      have hm : v ∈ ws := List.mem_of_getElem? hv
      have s1 : Same H' (upd H' T (.tup [.int v, .ref e])) := same_new nT
      have sm1 := sm.trans s1
      have fe := fl i e v he hv
      have L := ok.lens sr
      have F := (lft_ok (ws.take i) f L fun w hw => wo.non w (List.mem_of_mem_take hw)).1
      have g := gr_ok ls.reverse (lft ls.reverse f (ws.take i)) v (fun k hk => F.both k (List.mem_reverse.mp hk)) F.rnd (wo.non v hm)
      have rm : ∀ {k : Int}, k ∈ ls.reverse → k ∈ ks := fun hk => sr.mem.mp (List.mem_reverse.mp hk)
      have rl : ls.reverse.length = ks.length := by rw [List.length_reverse, sr.len]
      generalize hG : gr ls.reverse (lft ls.reverse f (ws.take i)) v = G at *
      refine ⟨T, [.int v, .ref e], rfl, .inl (.inl upd_same), rfl, _, _, rfl, _, _, rfl, rfl, ?_⟩
      have fe1 := sm1 _ _ fe
      refine ⟨_, rfl, .ref e, .ty "dict", .type "dict", .type "dict", true, rfl, .ty _, .base (.dK fe1), kit_ty (by decide +kernel), true, rfl, iteF ?_⟩
      refine ⟨_, rfl, e, _, rfl, fe1, _, rfl, d, _, rfl, sm1 _ _ hd, rfl, _, rfl, iteNS ?_ ?_⟩
      · rw [ents_len, ents_len, rl]
      dsimp only [tSeq, tIfS, tNot, tB, tCB, tCons]
      refine keys_m (List.replicate ls.reverse.length (.bl true)) rfl fe1 List.length_replicate (by have := ok.few; omega) (fun od M j k H2 hk nl p => ?_) fun H2 M s2 nM eM => ⟨M, List.replicate ls.reverse.length true, rfl, .inl (.inl ?_), true, ?_, iteF ?_⟩
      · have hm : k ∈ ls.reverse := List.mem_of_getElem? hk
        have hj : j < ls.reverse.length := (List.getElem?_eq_some_iff.mp hk).1
        refine ⟨rfl, yes (iteT ⟨_, rfl, _, rfl, k, d, ks, f, rfl, p.same _ _ (relock (sm1 _ _ hd) (ne e (List.mem_of_getElem? he)).symm), rm hm, ok.pos k (rm hm), ok.top k (rm hm), p.fin (.refl _) (rep_at hj)⟩)⟩
      · rw [rep_bl]
        exact eM
      · rw [all_true]
      · have sm2 := sm1.trans s2
        have ha2 := s2 _ _ (s1 _ _ ha)
        have fe2 := s2 _ _ fe1
        have nea := na e (List.mem_of_getElem? he)
        refine ⟨_, rfl, _, rfl, _, rfl, a, ks, _, v, e, ls.reverse, G, rfl, ha2, fe2, nea.symm, by have := ok.few; omega, fun k hk => ⟨rm hk, ok.pos k (rm hk), ok.top k (rm hk), g.1 k hk⟩, g.2, fun H3 s3 => ⟨true, rfl, iteF ?_⟩⟩
        refine ⟨_, rfl, _, rfl, a, ks, _, e, ls.reverse, G, rfl, s3 _ _ ha2, s3 _ _ fe2, nea.symm, by have := ok.few; omega, ok.nd, fun k hk => List.mem_reverse.mpr (sr.mem.mpr hk), fun H4 p s4 np hp => ?_⟩
        refine ⟨p, _, _, _, rfl, sm2.trans (s3.trans s4), ?_, fun e' he' z => ?_⟩
        · rw [hp, take_at hv, lft_snoc, hG]
        · subst z
          obtain ⟨j, hj, ej⟩ := List.getElem_of_mem he'
          have hw : j < ws.length := by omega
          have z := fl j e' ws[j] (by rw [List.getElem?_eq_getElem hj, ej]) (List.getElem?_eq_getElem hw)
          have z2 := s3 _ _ (sm2 _ _ z)
          rw [np] at z2
          cases z2
    · rintro σ H' ⟨a, x4, x5, x6, rfl, sm, ha, na⟩
      exact q H' sm
end
end K81
namespace K81
open PySem PySem.Spec PyProof.Rows L2
section
variable {P : Program} {w : World} {K : PySem.W.Frag} {mg : Str → Option Value} {base : Heap}
/-! ### longest_in -/
abbrev sIn : Stmt := topS 22
abbrev sFirst : Stmt := topS 23
abbrev sSums : Stmt := topS 24
abbrev sDone : Stmt := topS 25
theorem scIn : FnScope ["left", "window", "found", "length"] ["left", "window"] (defScope sIn) := ⟨rfl, rfl, rfl, by decide +kernel, rfl, by decide +kernel, by decide +kernel⟩
theorem scFirst : FnScope ["heap", "windows", "left", "found", "window", "works"] ["heap", "windows"] (defScope sFirst) := ⟨rfl, rfl, rfl, by decide +kernel, rfl, by decide +kernel, by decide +kernel⟩
theorem scSums : FnScope ["numbers", "found", "total", "number"] ["numbers"] (defScope sSums) := ⟨rfl, rfl, rfl, by decide +kernel, rfl, by decide +kernel, by decide +kernel⟩
theorem scDone : FnScope ["heap", "windows", "thing", "works"] ["heap", "windows", "thing"] (defScope sDone) := ⟨rfl, rfl, rfl, by decide +kernel, rfl, by decide +kernel, by decide +kernel⟩
def spIn : Sp := fun vs H Q _ => ∃ d ks f w ls, vs = [.ref d, .int w] ∧ H d = some (Dk ks f) ∧ Srt ls ks ∧ ks.length ≤ 1000 ∧ (∀ k ∈ ks, 1 ≤ k ∧ k ≤ 1000000) ∧
  ∀ H' p, Same H H' → H p = none → H' p = some (Dk ls.reverse (gr ls.reverse f w)) → Q (.ref p) H'
theorem down_is {ls ks ns : List Int} (s : Srt ls ks) (p : ns.Perm ks) (h : ns.Pairwise (· ≥ ·)) : ns = ls.reverse := by
  have e : ns.reverse = ls := up_uniq (((List.reverse_perm ns).trans p).trans s.perm.symm) (List.pairwise_reverse.mpr h) (s.up.imp fun z => by omega)
  rw [← e, List.reverse_reverse]
theorem min_if (a b : Int) : (if b < a then b else a) = min a b := by
  split <;> omega
theorem fdiv_pos {a b : Int} (h : 1 ≤ b) : a.fdiv b = a / b := Int.fdiv_eq_ediv_of_nonneg a (by omega)
theorem ok_in (N : Free mg) {f : Addr} {fd : FuncData} (D : Def K mg "longest_in" sIn ["left", "window"] f fd) : Has P w K mg base CX0 "longest_in" 1 ["left", "window"] spIn := by
  refine .of D (D.1.ok scIn (fun vs H Q E h => ?_) (fun cdv A outer s H vs Q E hr h => ?_))
  · obtain ⟨d, ks, f, w, ls, rfl, _⟩ := h
    rfl
  · obtain ⟨d, ks, f, w, ls, rfl, hd, sr, few, ok, q⟩ := h
    refine ⟨_, pss_cons (ps_set (i := 2) scIn.nd rfl (.inl rfl) pe_dnewK)
      (pss_cons (ps_for PassesOwn.never rfl (pi_list (pe_callBK (cr_sortedDRev rfl) (by rfl) N.sorted bt_sorted (pa_cons (pv 0) pa_nil) (pk_cons pe_bl pk_nil))) (pg_name (i := 3) scIn.nd rfl (.inl rfl))
        (pss_cons (ps_dput (hu_of hr) (pv 2) (pv 3) (pe_callB (call_min2 rfl) (by rfl) N.min bt_min (pa_cons (pe_dget (hu_of hr) (pv 0) (pv 3) (fun _ _ => rfl)) (pa_cons (pe_op op_fdivN (pv 1) (pv 3)) pa_nil))) rfl)
        (pss_one (ps_aug (i := 1) scIn.nd rfl (.inl rfl) (pe_op op_mul (pv 3) (pe_dget (hu_of hr) (pv 2) (pv 3) (fun _ _ => rfl))) ip_sub))))
      (pss_one (ps_ret (pv 2)))), ?_⟩
    refine fun r nr => ?_
    have nd0 := ne_of_none hd nr
    refine ⟨_, rfl, d, _, ks, rfl, rfl, .inl (relock hd nd0), ents_keys ks f, fun ns p pm dn np => ?_⟩
    obtain rfl := down_is sr pm dn
    have npr : p ≠ r := fun z => by
      rw [z, upd_same] at np
      cases np
    have nd : ls.reverse.Nodup := (List.reverse_perm ls).symm.nodup (up_nodup sr.up)
    have rm : ∀ {k : Int}, k ∈ ls.reverse → k ∈ ks := fun hk => sr.mem.mp (List.mem_reverse.mp hk)
    have rl : ls.reverse.length ≤ 1000 := by
      rw [List.length_reverse, sr.len]
      exact few
    generalize hds : ls.reverse = ds at *
    have s0 : Same H (upd (upd H r (.dK [])) p (.lst (ds.map V.int))) := (same_new nr).trans (same_new np)
    refine ⟨p, rfl, ⟨_, .inl (.inl upd_same)⟩, for_list (K := K) (a := p) (xs := ds.map V.int) (fun i σ H' => ∃ x3, σ = [some (.ref d), some (.int (w - hsum (ds.take i) (gr ds f w))), some (.ref r), x3] ∧ Same H H' ∧ H' r = some (Dk (ds.take i) (gr ds f w)) ∧ H' p = some (.lst (ds.map V.int)))
      ⟨none, ?_, s0, ?_, upd_same⟩ (fun i σ H' _ ⟨_, _, _, _, e⟩ => .inl (.inl e)) ?_ ?_⟩
    · rw [List.take_zero, hsum_nil, Int.sub_zero]
      rfl
    · rw [upd_ne npr.symm, upd_same]
      rfl
    · rintro i x σ H' hx ⟨x3, rfl, sm, er, ep⟩
      obtain ⟨k, hk, rfl⟩ := ints_at hx
      have hm : k ∈ ds := List.mem_of_getElem? hk
      obtain ⟨b1, b2⟩ := ok k (rm hm)
      have ga := gr_at ds f w i k nd hk
      have nk := nd_take nd hk
      have tk := take_at hk
      have fits : (ents (ds.take i) (gr ds f w)).length < sizeLine := by
        rw [ents_len, List.length_take]
        exact Nat.lt_of_le_of_lt (Nat.min_le_right _ _) (small1000 rl)
      refine ⟨_, rfl, _, rfl, d, .int (f k), rfl, Dk_get (.inl (sm _ _ hd)) (rm hm), _, rfl, _, rfl, _, _, rfl, rfl, ⟨by omega, by omega⟩, _, _, rfl, ?_⟩
      rw [min_if, fdiv_pos b1, ← ga]
      refine ⟨_, rfl, _, rfl, r, _, rfl, DPut.k (k := Sum.inl k) er fits, ?_⟩
      rw [ents_put nk, ← tk]
      have rg : (upd H' r (.dK (ents (ds.take (i + 1)) (gr ds f w)))) r = some (Dk (ds.take (i + 1)) (gr ds f w)) := upd_same
      refine ⟨_, rfl, _, rfl, _, rfl, _, rfl, r, .int (gr ds f w k), rfl, Dk_get (.inl rg) (by rw [tk]; exact List.mem_append_right _ (List.mem_singleton.mpr rfl)), _, _, rfl, rfl, .inl (big ⟨b1, b2⟩), _, _, rfl, rfl, ?_⟩
      refine ⟨some (.int k), ?_, same_up nr sm, rg, ?_⟩
      · rw [tk, hsum_app, hsum_cons, hsum_nil, Int.add_zero, ← Int.sub_sub]
        rfl
      · rw [upd_ne npr]
        exact ep
    · rintro σ H' ⟨x3, rfl, sm, er, ep⟩
      rw [List.length_map, List.take_length] at er
      exact ⟨_, rfl, q H' r sm nr er⟩
/-! ### sums_of -/
def spSums (K : PySem.W.Frag) : Sp := fun vs H Q _ => ∃ a ns, vs = [.ref a] ∧ SqL K H a (ns.map V.int) ∧ ns.length ≤ 1000 ∧ ∀ H' p, Same H H' → H p = none → H' p = some (Tp (sums ns)) → Q (.ref p) H'
theorem ok_sums (N : Free mg) {f : Addr} {fd : FuncData} (D : Def K mg "sums_of" sSums ["numbers"] f fd) : Has P w K mg base CX0 "sums_of" 1 ["numbers"] (spSums K) := by
  refine .of D (D.1.ok scSums (fun vs H Q E h => ?_) (fun cdv A outer s H vs Q E hr h => ?_))
  · obtain ⟨a, ns, rfl, _⟩ := h
    rfl
  · obtain ⟨a, ns, rfl, hS, few, q⟩ := h
    refine ⟨_, pss_cons (ps_set (i := 1) scSums.nd rfl (.inl rfl) (pe_lst pa_nil))
      (pss_cons (ps_set (i := 2) scSums.nd rfl (.inl rfl) pe_int)
      (pss_cons (ps_for PassesOwn.never rfl (pi_list (pv 0)) (pg_name (i := 3) scSums.nd rfl (.inl rfl))
        (pss_cons (ps_aug (i := 2) scSums.nd rfl (.inl rfl) (pv 3) ip_add)
        (pss_one (ps_expr (pe_bm PySem.F.plainAttrs_list PySem.F.slot_list_append PySem.F.type_list_append mt_append (pv 1) (pa_cons (pv 2) pa_nil))))))
      (pss_one (ps_ret (pe_callTy call_tuple_of (by rfl) N.tuple bt_tuple (pa_cons (pv 1) pa_nil)))))), ?_⟩
    refine ⟨Nat.zero_le _, fun r nr => ?_⟩
    have s0 : Same H (upd H r (.lst [])) := same_new nr
    refine ⟨_, rfl, a, rfl, ⟨_, s0.seq hS⟩, for_list (K := K) (a := a) (xs := ns.map V.int) (fun i σ H' => ∃ x3, σ = [some (.ref a), some (.ref r), some (.int (ns.take i).sum), x3] ∧ Same H H' ∧ H' r = some (Ls ((sums ns).take i)))
      ⟨none, rfl, s0, upd_same⟩ (fun i σ H' _ ⟨_, _, sm, _⟩ => sm.seq hS) ?_ ?_⟩
    · rintro i x σ H' hx ⟨x3, rfl, sm, er⟩
      obtain ⟨k, hk, rfl⟩ := ints_at hx
      have hi : i < ns.length := (List.getElem?_eq_some_iff.mp hk).1
      have tk := take_at hk
      have ts : (sums ns)[i]? = some (ns.take (i + 1)).sum := tab_at hi
      have sk : (ns.take i).sum + k = (ns.take (i + 1)).sum := (sum_take hk).symm
      refine ⟨_, rfl, _, rfl, _, _, rfl, rfl, ?_⟩
      refine ⟨_, rfl, .inl ⟨rfl, _, .inl (.inl er)⟩, _, rfl, r, _, _, rfl, rfl, er, ?_, some (.int k), ?_, same_up nr sm, ?_⟩
      · rw [List.length_map, List.length_take]
        refine Nat.lt_of_le_of_lt (Nat.min_le_right _ _) (small1000 ?_)
        rw [show (sums ns).length = ns.length from tab_len ..]
        exact few
      · rw [← sk]
        rfl
      · rw [upd_same, take_at ts, ← sk]
        unfold Ls
        rw [List.map_append]
        rfl
    · rintro σ H' ⟨x3, rfl, sm, er⟩
      have e : (sums ns).take (ns.map V.int).length = sums ns := List.take_of_length_le (by
        rw [List.length_map, show (sums ns).length = ns.length from tab_len ..]
        exact Nat.le_refl _)
      rw [e] at er
      exact ⟨_, rfl, r, _, rfl, .inl ⟨.inl (.inl er), fun p np => q _ p (sm.trans (same_new np)) (sm.free np) upd_same⟩⟩
/-! ### longest_first -/
def spFirst : Sp := fun vs H Q _ => ∃ d ks f t ws ls, vs = [.ref d, .ref t] ∧ H d = some (Dk ks f) ∧ HeapOk ks f ∧ H t = some (Tp ws) ∧ WinOk ws ∧ Srt ls ks ∧
  ∀ H' u es, Same H H' → H u = none → H' u = some (.tup (es.map V.ref)) → es.length = ws.length → Fills H' ls f ws es → (∀ e ∈ es, H e = none) → Q (.ref u) H'
theorem ok_first (N : Free mg) (GC : Has P w K mg base CX0 "check_heap" 4 ["heap", "windows"] spCheck) (GI : Has P w K mg base CX0 "longest_in" 1 ["left", "window"] spIn) (GT : Has P w K mg base CX0 "taken_from" 1 ["left", "works"] spTaken)
    {f : Addr} {fd : FuncData} (D : Def K mg "longest_first" sFirst ["heap", "windows"] f fd) : Has P w K mg base CX0 "longest_first" 5 ["heap", "windows"] spFirst := by
  refine .of D (D.1.ok scFirst (fun vs H Q E h => ?_) (fun cdv A outer s H vs Q E hr h => ?_))
  · obtain ⟨d, ks, f, t, ws, ls, rfl, _⟩ := h
    rfl
  · obtain ⟨d, ks, f, t, ws, ls, rfl, hd, ok, ht, wo, sr, q⟩ := h
    refine ⟨_, pss_cons (ps_expr (pcall GC hr (pa_cons (pv 0) (pa_cons (pv 1) pa_nil))))
      (pss_cons (ps_set (i := 2) scFirst.nd rfl (.inl rfl) (pv 0))
      (pss_cons (ps_set (i := 3) scFirst.nd rfl (.inl rfl) (pe_lst pa_nil))
      (pss_cons (ps_for PassesOwn.never rfl (pi_tup (pv 1)) (pg_name (i := 4) scFirst.nd rfl (.inl rfl))
        (pss_cons (ps_set (i := 5) scFirst.nd rfl (.inl rfl) (pcall GI (hr.mono (by decide)) (pa_cons (pv 2) (pa_cons (pv 4) pa_nil))))
        (pss_cons (ps_set (i := 2) scFirst.nd rfl (.inl rfl) (pcall GT (hr.mono (by decide)) (pa_cons (pv 2) (pa_cons (pv 5) pa_nil))))
        (pss_one (ps_expr (pe_bm PySem.F.plainAttrs_list PySem.F.slot_list_append PySem.F.type_list_append mt_append (pv 3) (pa_cons (pv 5) pa_nil)))))))
      (pss_one (ps_ret (pe_callTy call_tuple_of (by rfl) N.tuple bt_tuple (pa_cons (pv 3) pa_nil))))))), ?_⟩
    refine ⟨_, rfl, _, rfl, d, ks, f, t, ws, rfl, hd, ok, ht, wo, fun H1 s1 => ?_⟩
    refine ⟨_, rfl, Nat.zero_le _, fun r nr => ?_⟩
    have s2 := s1.trans (same_new (o := .lst []) nr)
    have nr0 := s1.free nr
    refine ⟨_, rfl, t, rfl, ⟨_, .inl (.inl (s2 _ _ ht))⟩, for_tup (K := K) (a := t) (xs := ws.map V.int) (fun i σ H' => ∃ a es x4 x5, σ = [some (.ref d), some (.ref t), some (.ref a), some (.ref r), x4, x5] ∧ Same H H' ∧ H' a = some (Dk ks (lft ls.reverse f (ws.take i))) ∧
        H' r = some (.lst (es.map V.ref)) ∧ es.length = i ∧ Fills H' ls f ws es ∧ ∀ e ∈ es, H e = none)
      ⟨d, [], none, none, rfl, s2, s2 _ _ hd, upd_same, rfl, fun i e w h => by simp at h, fun e h => (List.not_mem_nil h).elim⟩ (fun i σ H' _ ⟨_, _, _, _, _, sm, _⟩ => same_sqt sm (.inl (.inl ht))) ?_ ?_⟩
    · rintro i x σ H' hx ⟨a, es, x4, x5, rfl, sm, ha, er, len, fl, fr⟩
      obtain ⟨v, hv, rfl⟩ := ints_at hx
      have hm : v ∈ ws := List.mem_of_getElem? hv
      have hi : i < ws.length := (List.getElem?_eq_some_iff.mp hv).1
      have few := ok.few
      refine ⟨_, rfl, _, rfl, a, ks, _, v, ls, rfl, ha, sr, by omega, fun k hk => ⟨ok.pos k hk, ok.top k hk⟩, fun H2 e s3 ne he => ?_⟩
      refine ⟨_, rfl, _, rfl, a, ks, _, e, ls.reverse, _, rfl, s3 _ _ ha, he, ne_of_none ha ne, by omega, ok.nd, fun k hk => List.mem_reverse.mpr (sr.mem.mpr hk), fun H3 b s4 nb hb => ?_⟩
      have er3 := s4 _ _ (s3 _ _ er)
      have nrb : b ≠ r := fun z => by
        rw [z, s3 _ _ er] at nb
        cases nb
      have nre : e ≠ r := fun z => by
        rw [z, er] at ne
        cases ne
      have wcut := wo.few
      refine ⟨_, rfl, .inl ⟨rfl, _, .inl (.inl er3)⟩, _, rfl, r, _, _, rfl, rfl, er3, ?_, b, es ++ [e], _, _, rfl, same_up nr0 (sm.trans (s3.trans s4)), ?_, ?_, ?_, ?_, ?_⟩
      · rw [List.length_map]
        exact small1000 (by omega)
      · rw [upd_ne nrb, hb, take_at hv, lft_snoc]
      · rw [upd_same, List.map_append]
        rfl
      · rw [List.length_append, len]
        rfl
      · intro j e' w' hj hw
        by_cases c : j < es.length
        · rw [List.getElem?_append_left c] at hj
          have z := fl j e' w' hj hw
          have n1 : e' ≠ r := fun y => by
            subst y
            rw [er] at z
            cases z
          rw [upd_ne n1]
          exact s4 _ _ (s3 _ _ z)
        · have cj : j = i := by
            have := (List.getElem?_eq_some_iff.mp hj).1
            rw [List.length_append, List.length_singleton] at this
            omega
          subst cj
          rw [List.getElem?_append_right (by omega), len, Nat.sub_self] at hj
          have e1 : e = e' := by simpa using hj
          have e2 : v = w' := by
            rw [hv] at hw
            exact Option.some.inj hw
          subst e1 e2
          rw [upd_ne nre]
          exact s4 _ _ he
      · intro e' he'
        rcases List.mem_append.mp he' with z | z
        · exact fr e' z
        · rw [List.mem_singleton.mp z]
          exact sm.free ne
    · rintro σ H' ⟨a, es, x4, x5, rfl, sm, ha, er, len, fl, fr⟩
      rw [List.length_map] at len
      refine ⟨_, rfl, r, _, rfl, .inl ⟨.inl (.inl er), fun p np => q _ p es (sm.trans (same_new np)) (sm.free np) upd_same len (fun j e w hj hw => ?_) fr⟩⟩
      exact same_new np _ _ (fl j e w hj hw)
/-! ### done_in -/
def spDone : Sp := fun vs H Q _ => ∃ d ks f t ws u es ls, vs = [.ref d, .ref t, .ref u] ∧ H d = some (Dk ks f) ∧ HeapOk ks f ∧ H t = some (Tp ws) ∧ WinOk ws ∧ H u = some (.tup (es.map V.ref)) ∧ es.length = ws.length ∧ Srt ls ks ∧ Fills H ls f ws es ∧ (∀ e ∈ es, e ≠ d) ∧
  ∀ H' p, Same H H' → H p = none → H' p = some (Tp (dones ls f ws)) → Q (.ref p) H'
theorem ok_done (GC : Has P w K mg base CX0 "check_heap" 4 ["heap", "windows"] spCheck) (GF : Has P w K mg base CX0 "is_filling" 4 ["heap", "windows", "thing"] spFilling) (GH : Has P w K mg base CX0 "hours_in" 1 ["works"] spHours) (GS : Has P w K mg base CX0 "sums_of" 1 ["numbers"] (spSums K))
    {f : Addr} {fd : FuncData} (D : Def K mg "done_in" sDone ["heap", "windows", "thing"] f fd) : Has P w K mg base CX0 "done_in" 5 ["heap", "windows", "thing"] spDone := by
  refine .of D (D.1.ok scDone (fun vs H Q E h => ?_) (fun cdv A outer s H vs Q E hr h => ?_))
  · obtain ⟨d, ks, f, t, ws, u, es, ls, rfl, _⟩ := h
    rfl
  · obtain ⟨d, ks, f, t, ws, u, es, ls, rfl, hd, ok, ht, wo, hu, len, sr, fl, ne, q⟩ := h
    refine ⟨_, pss_cons (ps_expr (pcall GC hr (pa_cons (pv 0) (pa_cons (pv 1) pa_nil))))
      (pss_cons (ps_if (pt_not (pt_val (pcall GF hr (pa_cons (pv 0) (pa_cons (pv 1) (pa_cons (pv 2) pa_nil)))))) pss_never pss_nil)
      (pss_one (ps_ret (pcall GS (hr.mono (by decide)) (pa_cons (pe_lc (own := [("works", 3)]) (g := gName 3) (tt := tYes) rfl scDone.nd (pi_tup (pv 2)) (blkOk_by (N := ["heap", "windows", "thing", "works"]) (sc := defScope sDone) (by decide +kernel))
        (fun _ _ _ _ _ => pg_name (i := 3) scDone.nd rfl (.inl rfl)) (fun _ _ _ _ _ => pts_nil) (fun _ _ _ _ _ => pcall GH (hr.mono (by decide)) (pa_cons (pv 3) pa_nil))) pa_nil))))), ?_⟩
    refine ⟨_, rfl, _, rfl, d, ks, f, t, ws, rfl, hd, ok, ht, wo, fun H1 s1 => ?_⟩
    refine ⟨_, rfl, _, rfl, _, rfl, d, ks, f, t, ws, u, es, ls, rfl, s1 _ _ hd, ok, s1 _ _ ht, wo, s1 _ _ hu, len, sr, fun i e w a b => s1 _ _ (fl i e w a b), ne, fun H2 s2 => ⟨true, rfl, iteF ?_⟩⟩
    have sm := s1.trans s2
    have hlen : (hls ls f ws).length = ws.length := tab_len ..
    have wf := wo.few
    dsimp only [tNext, tRet, tCall, tCons]
    refine tupv_m (K := K) ((hls ls f ws).map V.int) rfl (.inl (.inl (sm _ _ hu))) (by rw [List.length_map, List.length_map, hlen, len]) (by rw [List.length_map, len]; omega) (fun L j z H3 hz p => ?_) fun H3 L s3 nL e => ?_
    · obtain ⟨e, he, rfl⟩ := refs_at hz
      have hj : j < ws.length := by
        have := (List.getElem?_eq_some_iff.mp he).1
        omega
      have ew : ws[j]? = some ws[j] := List.getElem?_eq_getElem hj
      have fe := fl j e ws[j] he ew
      have few := ok.few
      refine ⟨rfl, yes (iteT ⟨_, rfl, e, ls.reverse, _, rfl, p.same _ _ (sm _ _ fe), by rw [List.length_reverse, sr.len]; omega, fun k hk => ?_, fun H4 s4 => p.fin s4 ?_⟩)⟩
      · have hk := sr.mem.mp (List.mem_reverse.mp hk)
        exact ⟨ok.pos k hk, ok.top k hk⟩
      · refine at_ints ?_
        have g : ws.getD j 0 = ws[j] := getD_of ew
        show (tab ws.length _)[j]? = _
        rw [tab_at hj, g]
    · refine ⟨L, hls ls f ws, rfl, .inl (.inl e), by rw [hlen]; omega, fun H4 p s4 np hp => q H4 p (sm.trans (s3.trans s4)) (sm.free (s3.free np)) ?_⟩
      rw [hp, sums_hls]
end
end K81
namespace K81
open PySem PySem.Spec PyProof.Rows L2
theorem goes_at {ls : List Int} : Goes ls ↔ ∀ (p q : Nat) (x y : Int), p < q → ls[p]? = some x → ls[q]? = some y → x ∣ y := by
  unfold Goes
  rw [List.pairwise_iff_getElem]
  refine ⟨fun h p q x y l a b => ?_, fun h i j hi hj l => h i j _ _ l (List.getElem?_eq_getElem hi) (List.getElem?_eq_getElem hj)⟩
  obtain ⟨ha, ea⟩ := List.getElem?_eq_some_iff.mp a
  obtain ⟨hb, eb⟩ := List.getElem?_eq_some_iff.mp b
  have := h p q ha hb l
  rw [ea, eb] at this
  exact this
theorem fmod_pos {a b : Int} (h : 1 ≤ b) : a.fmod b = a % b := Int.fmod_eq_emod_of_nonneg a (by omega)
section
variable {P : Program} {w : World} {K : PySem.W.Frag} {mg : Str → Option Value} {base : Heap}
/-! ### first_odd -/
abbrev sOdd : Stmt := topS 26
abbrev sBounds : Stmt := topS 27
abbrev sBest : Stmt := topS 28
abbrev sMost : Stmt := topS 29
abbrev sBound : Stmt := topS 30
theorem scOdd : FnScope ["lengths", "at", "one", "other"] ["lengths"] (defScope sOdd) := ⟨rfl, rfl, rfl, by decide +kernel, rfl, by decide +kernel, by decide +kernel⟩
theorem scBounds : FnScope ["heap", "windows", "found", "length", "shorter", "other", "window"] ["heap", "windows"] (defScope sBounds) := ⟨rfl, rfl, rfl, by decide +kernel, rfl, by decide +kernel, by decide +kernel⟩
theorem scBest : FnScope ["heap", "windows", "at"] ["heap", "windows"] (defScope sBest) := ⟨rfl, rfl, rfl, by decide +kernel, rfl, by decide +kernel, by decide +kernel⟩
theorem scMost : FnScope ["heap", "windows", "hours", "length"] ["heap", "windows"] (defScope sMost) := ⟨rfl, rfl, rfl, by decide +kernel, rfl, by decide +kernel, by decide +kernel⟩
theorem scBound : FnScope ["heap", "windows", "hours", "length"] ["heap", "windows"] (defScope sBound) := ⟨rfl, rfl, rfl, by decide +kernel, rfl, by decide +kernel, by decide +kernel⟩
def spOdd (K : PySem.W.Frag) : Sp := fun vs H Q _ => ∃ a ls, vs = [.ref a] ∧ SqL K H a (ls.map V.int) ∧ (∀ l ∈ ls, 1 ≤ l) ∧
  (Goes ls → ∀ H', Same H H' → Q .non H') ∧ (¬ Goes ls → ∀ H' p, Same H H' → Q (.ref p) H')
theorem ok_odd (N : Free mg) {f : Addr} {fd : FuncData} (D : Def K mg "first_odd" sOdd ["lengths"] f fd) : Has P w K mg base CX0 "first_odd" 1 ["lengths"] (spOdd K) := by
  refine .of D (D.1.ok scOdd (fun vs H Q E h => ?_) (fun cdv A outer s H vs Q E hr h => ?_))
  · obtain ⟨a, ls, rfl, _⟩ := h
    rfl
  · obtain ⟨a, ls, rfl, hS, pos, q1, q2⟩ := h
    refine ⟨_, pss_cons (ps_for PassesOwn.never rfl (pi_enum (by rfl) N.enumerate (pa_cons (pv 0) pa_nil)) (pg_tup rfl (pgs_cons (pg_name (i := 1) scOdd.nd rfl (.inl rfl)) (pgs_cons (pg_name (i := 2) scOdd.nd rfl (.inl rfl)) pgs_nil)))
        (pss_one (ps_for PassesOwn.never rfl (pi_list (pe_slice sl_list (pv 0) (po_some (pe_op op_add (pv 1) pe_int)) po_none)) (pg_name (i := 3) scOdd.nd rfl (.inl rfl))
          (pss_one (ps_if (pt_cmpR op_ne (pe_op op_modN (pv 3) (pv 2)) pe_int (nomark _)) (pss_one (ps_ret (pe_tup (pa_cons (pv 2) (pa_cons (pv 3) pa_nil))))) pss_nil)))))
      (pss_one (ps_ret pe_non)), ?_⟩
    refine ⟨_, rfl, a, _, rfl, hS, for_it walk_enum (fun i σ H' => ∃ x1 x2 x3, σ = [some (.ref a), x1, x2, x3] ∧ Same H H' ∧ ∀ (p q : Nat) (x y : Int), p < i → p < q → ls[p]? = some x → ls[q]? = some y → x ∣ y)
      ⟨none, none, none, rfl, .refl _, fun p q x y h => absurd h (by omega)⟩ (fun i σ H' _ ⟨_, _, _, _, sm, _⟩ => sm.seq hS) ?_ ?_⟩
    · rintro i v σ H' H2 hi ⟨x1, x2, x3, rfl, sm, dv⟩ ⟨T, x, y, rfl, nT, rfl, e1, e2⟩
      obtain rfl : V.int (i : Nat) = x := Option.some.inj e1
      obtain ⟨k, hk, rfl⟩ := ints_at e2
      have kp := pos k (List.mem_of_getElem? hk)
      have s1 := sm.trans (same_new (o := .tup [.int (i : Nat), .int k]) nT)
      refine ⟨T, [.int (i : Nat), .int k], rfl, .inl (.inl upd_same), rfl, _, _, rfl, _, _, rfl, rfl, ?_⟩
      refine ⟨_, rfl, _, rfl, _, _, rfl, rfl, (i : Int) + 1, rfl, ?_⟩
      refine ⟨a, _, rfl, s1.seq hS, fun c nc => ?_⟩
      have ec : cutV (ls.map V.int) (some ((i : Int) + 1)) none = (ls.drop (i + 1)).map V.int := by
        rw [show (i : Int) + 1 = ((i + 1 : Nat) : Int) by omega, cut_tail, List.map_drop]
      rw [ec]
      have s2 := s1.trans (same_new (o := .lst ((ls.drop (i + 1)).map V.int)) nc)
      refine ⟨c, rfl, ⟨_, .inl (.inl upd_same)⟩, for_list (K := K) (a := c) (xs := (ls.drop (i + 1)).map V.int) (fun j σ H' => ∃ x3, σ = [some (.ref a), some (.int (i : Nat)), some (.int k), x3] ∧ Same H H' ∧ H' c = some (Ls (ls.drop (i + 1))) ∧ ∀ (q : Nat) (y : Int), q < j → (ls.drop (i + 1))[q]? = some y → k ∣ y)
        ⟨x3, rfl, s2, upd_same, fun q y h => absurd h (by omega)⟩ (fun j σ H' _ ⟨_, _, _, e, _⟩ => .inl (.inl e)) ?_ ?_⟩
      · rintro j x σ H3 hx ⟨x3, rfl, sm3, ec3, dj⟩
        obtain ⟨m, hm, rfl⟩ := ints_at hx
        refine ⟨_, rfl, _, rfl, _, _, rfl, rfl, by omega, rfl, _, rfl, ?_⟩
        have fm : m.fmod k = m % k := fmod_pos kp
        by_cases c0 : m % k = 0
        · refine iteNS (show V.int (m.fmod k) = V.int 0 by rw [fm, c0]) ?_
          refine ⟨some (.int m), rfl, sm3, ec3, fun q y hq hy => ?_⟩
          by_cases c1 : q < j
          · exact dj q y c1 hy
          · have : q = j := by omega
            subst this
            rw [hm] at hy
            cases hy
            exact Int.dvd_of_emod_eq_zero c0
        · have nb : (!decide (V.int (m.fmod k) = V.int 0)) = true := by
            rw [decide_eq_false (fun z => c0 (by rw [← fm]; exact V.int.inj z))]
            rfl
          refine ite2 (fun _ => ?_) fun z => absurd nb z
          refine ⟨_, rfl, _, rfl, by show 2 ≤ sizeLine; decide, fun p np => q2 (fun g => c0 ?_) _ p (sm3.trans (same_new np))⟩
          rw [List.getElem?_drop] at hm
          exact Int.emod_eq_zero_of_dvd (goes_at.mp g i (i + 1 + j) k m (by omega) hk hm)
      · rintro σ H3 ⟨x3, rfl, sm3, _, dj⟩
        refine ⟨_, _, _, rfl, sm3, fun p q x y hp hpq a b => ?_⟩
        by_cases c1 : p < i
        · exact dv p q x y c1 hpq a b
        · have : p = i := by omega
          subst this
          rw [hk] at a
          cases a
          refine dj (q - (p + 1)) y ?_ ?_
          · rw [List.length_map, List.length_drop]
            have := (List.getElem?_eq_some_iff.mp b).1
            omega
          · rw [List.getElem?_drop, show p + 1 + (q - (p + 1)) = q by omega]
            exact b
    · rintro σ H' ⟨x1, x2, x3, rfl, sm, dv⟩
      refine q1 (goes_at.mpr fun p q x y l a b => dv p q x y ?_ l a b) H' sm
      rw [List.length_map]
      exact (List.getElem?_eq_some_iff.mp a).1
end
end K81
namespace K81
open PySem PySem.Spec PyProof.Rows L2
theorem rows_len (ls : List Int) (f : Int → Int) (ws : List Int) : (rows ls f ws).length = ls.length + 1 := by
  unfold rows
  rw [List.length_cons, List.length_map]
theorem rows_at {ls : List Int} {f : Int → Int} {ws : List Int} {i : Nat} {l : Int} (h : ls[i]? = some l) : (rows ls f ws)[i + 1]? = some (l, bnd ls f ws l) := by
  unfold rows
  rw [List.getElem?_cons_succ, List.getElem?_map, h]
  rfl
/-- the tuples at ts hold the bounds, hours first -/
def Pairs (H : Hp) (ts : List Addr) (qs : List (Int × Int)) : Prop := ts.length = qs.length ∧ ∀ (i : Nat) t q, ts[i]? = some t → qs[i]? = some q → H t = some (Tp [q.1, q.2])
theorem Pairs.same {H H' : Hp} {ts : List Addr} {qs : List (Int × Int)} (p : Pairs H ts qs) (s : Same H H') : Pairs H' ts qs := ⟨p.1, fun i t q a b => s _ _ (p.2 i t q a b)⟩
theorem Pairs.snoc {H : Hp} {ts : List Addr} {qs : List (Int × Int)} {t : Addr} {q : Int × Int} (p : Pairs H ts qs) (h : H t = some (Tp [q.1, q.2])) : Pairs H (ts ++ [t]) (qs ++ [q]) := by
  refine ⟨by rw [List.length_append, List.length_append, p.1]; rfl, fun i t' q' a b => ?_⟩
  by_cases c : i < ts.length
  · rw [List.getElem?_append_left c] at a
    rw [List.getElem?_append_left (by rw [← p.1]; exact c)] at b
    exact p.2 i t' q' a b
  · have z := (List.getElem?_eq_some_iff.mp a).1
    rw [List.length_append, List.length_singleton] at z
    have e : i = ts.length := by omega
    subst e
    rw [List.getElem?_append_right (Nat.le_refl _), Nat.sub_self] at a
    rw [p.1, List.getElem?_append_right (Nat.le_refl _), Nat.sub_self] at b
    have e1 : t = t' := by simpa using a
    have e2 : q = q' := by simpa using b
    subst e1 e2
    exact h
def swp (q : Int × Int) : Int × Int := (q.2, q.1)
section
variable {P : Program} {w : World} {K : PySem.W.Frag} {mg : Str → Option Value} {base : Heap}
/-! ### bounds_at -/
def spBounds : Sp := fun vs H Q _ => ∃ d ks f t ws ls, vs = [.ref d, .ref t] ∧ H d = some (Dk ks f) ∧ H t = some (Tp ws) ∧ Srt ls ks ∧ ks.length < 64 ∧ ws.length ≤ 1000 ∧ (∀ k ∈ ks, 1 ≤ k ∧ k ≤ 1000000) ∧
  ∀ H' p ts, Same H H' → H p = none → H' p = some (.lst (ts.map V.ref)) → Pairs H' ts ((rows ls f ws).map swp) → Q (.ref p) H'
theorem ok_bounds (N : Free mg) (GH : Has P w K mg base CX0 "hours_in" 1 ["works"] spHours) {f : Addr} {fd : FuncData} (D : Def K mg "bounds_at" sBounds ["heap", "windows"] f fd) : Has P w K mg base CX0 "bounds_at" 2 ["heap", "windows"] spBounds := by
  refine .of D (D.1.ok scBounds (fun vs H Q E h => ?_) (fun cdv A outer s H vs Q E hr h => ?_))
  · obtain ⟨d, ks, f, t, ws, ls, rfl, _⟩ := h
    rfl
  · obtain ⟨d, ks, f, t, ws, ls, rfl, hd, ht, sr, few, wf, ok, q⟩ := h
    refine ⟨_, pss_cons (ps_set (i := 2) scBounds.nd rfl (.inl rfl) (pe_lst (pa_cons (pe_tup (pa_cons (pcall GH hr (pa_cons (pv 0) pa_nil)) (pa_cons pe_int pa_nil))) pa_nil)))
      (pss_cons (ps_for PassesOwn.never rfl (pi_list (pe_callB (call_sortedDI rfl) (by rfl) N.sorted bt_sorted (pa_cons (pv 0) pa_nil))) (pg_name (i := 3) scBounds.nd rfl (.inr rfl))
        (pss_cons (ps_set (i := 4) scBounds.nd rfl (.inl rfl) (pe_callB (cr_sum rfl) (by rfl) N.sum bt_sum (pa_cons (pe_lock (pe_lc (own := [("other", 5)]) (g := gName 5) rfl scBounds.nd (pi_keys (pv 0)) (blkOk_by (N := ["heap", "windows", "found", "length", "shorter", "other", "window"]) (sc := defScope sBounds) (by decide +kernel))
          (fun _ _ _ _ _ => pg_name (i := 5) scBounds.nd rfl (.inl rfl)) (fun _ _ _ _ _ => pts_one (pt_cmpR op_lt (pv 5) (pv 3) (nomark _))) (fun _ _ _ _ _ => pe_op op_mul (pv 5) (pe_dget (hu_of hr) (pv 0) (pv 5) (fun _ _ => rfl))))) pa_nil)))
        (pss_one (ps_expr (pe_bm PySem.F.plainAttrs_list PySem.F.slot_list_append PySem.F.type_list_append mt_append (pv 2) (pa_cons (pe_tup (pa_cons (pe_op op_add
          (pe_callB (cr_sum rfl) (by rfl) N.sum bt_sum (pa_cons (pe_lc (own := [("window", 6)]) (g := gName 6) (tt := tYes) rfl scBounds.nd (pi_tup (pv 1)) (blkOk_by (N := ["heap", "windows", "found", "length", "shorter", "other", "window"]) (sc := defScope sBounds) (by decide +kernel))
            (fun _ _ _ _ _ => pg_name (i := 6) scBounds.nd rfl (.inl rfl)) (fun _ _ _ _ _ => pts_nil) (fun _ _ _ _ _ => pe_op op_mul (pe_op op_fdivN (pv 6) (pv 3)) (pv 3))) pa_nil)) (pv 4)) (pa_cons (pv 3) pa_nil))) pa_nil))))))
      (pss_one (ps_ret (pv 2)))), ?_⟩
    refine ⟨_, rfl, d, ks, f, rfl, hd, by omega, ok, fun H1 s1 => ⟨(by decide : 2 ≤ sizeLine), fun T nT => ⟨(by decide : 1 ≤ sizeLine), fun r nr => ?_⟩⟩⟩
    have s2 := s1.trans (same_new (o := .tup [.int (hsum ks f), .int 0]) nT)
    have s3 := s2.trans (same_new (o := .lst [.ref T]) nr)
    have nr0 := s2.free nr
    have hT : (upd (upd H1 T (.tup [.int (hsum ks f), .int 0])) r (.lst [.ref T])) T = some (Tp [hsum ls f, 0]) := by
      rw [upd_ne (ne_of_none upd_same nr), upd_same, hsum_perm sr.perm]
      rfl
    refine ⟨_, rfl, d, _, ks, rfl, .inl (s3 _ _ hd), ents_keys ks f, few, fun ns p pm up np => ?_⟩
    have els : ns = ls := up_uniq (pm.trans sr.perm.symm) up (sr.up.imp fun z => by omega)
    subst els
    have npr : p ≠ r := fun z => by
      rw [z, upd_same] at np
      cases np
    have s4 := s3.trans (same_new (o := .lst (ns.map V.int)) np)
    have wfew : ks.length ≤ 1000 := by omega
    refine ⟨p, rfl, ⟨_, .inl (.inl upd_same)⟩, for_list (K := K) (a := p) (xs := ns.map V.int) (fun i σ H' => ∃ ts x3 x4, σ = [some (.ref d), some (.ref t), some (.ref r), x3, x4, none, none] ∧ Same H H' ∧ H' p = some (Ls ns) ∧ H' r = some (.lst (ts.map V.ref)) ∧ Pairs H' ts (((rows ns f ws).take (i + 1)).map swp))
      ⟨[T], none, none, rfl, s4, upd_same, ?_, ?_⟩ (fun i σ H' _ ⟨_, _, _, _, _, e, _⟩ => .inl (.inl e)) ?_ ?_⟩
    · rw [upd_ne npr.symm, upd_same]
      rfl
    · refine ⟨rfl, fun i t q a b => ?_⟩
      cases i with
      | succ i => simp at a
      | zero =>
        have e1 : T = t := by simpa using a
        have e2 : (hsum ns f, 0) = q := by simpa [rows, swp] using b
        subst e1 e2
        exact same_new np _ _ hT
    · rintro i x σ H' hx ⟨ts, x3, x4, rfl, sm, ep, er, prs⟩
      obtain ⟨l, hl, rfl⟩ := ints_at hx
      have hm : l ∈ ns := List.mem_of_getElem? hl
      obtain ⟨b1, b2⟩ := ok l (sr.mem.mp hm)
      have hi : i < ns.length := (List.getElem?_eq_some_iff.mp hl).1
      dsimp only [gName, tSeq, tAsg, tCB, tCons]
      refine keys_f (fun o => decide (o < l)) (fun o => .int (o * f o)) rfl (sm _ _ hd) wfew (fun od M j k H2 hk nl pp => ?_) fun H2 M s5 nM eM => ?_
      · have km : k ∈ ks := List.mem_of_getElem? hk
        refine ⟨rfl, ?_⟩
        refine ⟨_, rfl, _, rfl, _, _, rfl, rfl, _, rfl, ?_⟩
        by_cases c : k < l
        · refine ite2 (fun _ => ?_) fun z => absurd (decide_eq_true c) z
          refine ⟨_, rfl, _, rfl, _, rfl, d, .int (f k), rfl, Dk_get (same_rd pp.same (.inr ⟨od, upd_same⟩)) km, _, _, rfl, rfl, .inl (big (ok k km)), ?_⟩
          exact pp.yes (.refl _) hk (decide_eq_true c)
        · refine ite2 (fun z => absurd (of_decide_eq_true z) c) fun _ => ?_
          exact pp.no (.refl _) hk (decide_eq_false c)
      · refine ⟨M, (ks.filter fun o => decide (o < l)).map fun o => o * f o, rfl, .inl (.inl ?_), ?_⟩
        · rw [List.map_map]
          exact eM
        have sm2 := sm.trans s5
        have er2 := s5 _ _ er
        refine ⟨_, rfl, .inl ⟨rfl, _, .inl (.inl er2)⟩, ?_⟩
        dsimp only [tTup, tOp, tCons, tCB]
        refine tup_m (K := K) (ws.map fun v => V.int (v / l * l)) rfl (.inl (.inl (sm2 _ _ ht))) (List.length_map ..) wf (fun M2 j v H3 hv pp => ?_) fun H3 M2 s6 nM2 eM2 => ?_
        · refine ⟨rfl, yes (iteT ?_)⟩
          refine ⟨_, rfl, _, rfl, _, _, rfl, rfl, ⟨by omega, by omega⟩, _, rfl, _, _, rfl, rfl, .inr (big ⟨b1, b2⟩), pp.fin (.refl _) ?_⟩
          rw [List.getElem?_map, hv, fdiv_pos b1]
          rfl
        · refine ⟨M2, ws.map fun v => v / l * l, rfl, .inl (.inl ?_), ?_⟩
          · rw [List.map_map]
            exact eM2
          have sm3 := sm2.trans s6
          have er3 := s6 _ _ er2
          have ep3 := s6 _ _ (s5 _ _ ep)
          refine ⟨_, rfl, _, _, rfl, rfl, _, rfl, (by decide : 2 ≤ sizeLine), fun T2 nT2 => ?_⟩
          have nTr : T2 ≠ r := fun z => by
            rw [z, er3] at nT2
            cases nT2
          have nTp : T2 ≠ p := fun z => by
            rw [z, ep3] at nT2
            cases nT2
          refine ⟨r, _, _, rfl, rfl, by rw [upd_ne nTr.symm]; exact er3, ?_, ts ++ [T2], some (.int l), _, rfl, same_up nr0 (sm3.trans (same_new nT2)), ?_, ?_, ?_⟩
          · rw [List.length_map, prs.1, List.length_map, List.length_take]
            refine Nat.lt_of_le_of_lt (Nat.min_le_right _ _) (small1000 ?_)
            rw [rows_len, sr.len]
            omega
          · rw [upd_ne npr, upd_ne nTp.symm]
            exact ep3
          · rw [upd_same, List.map_append]
            rfl
          · have ra : (rows ns f ws)[i + 1]? = some (l, bnd ns f ws l) := rows_at hl
            rw [take_at ra, List.map_append]
            refine Pairs.snoc ⟨prs.1, fun j t' q' a b => ?_⟩ ?_
            · have z := prs.2 j t' q' a b
              have n1 : t' ≠ r := fun y => by
                subst y
                rw [er] at z
                cases z
              rw [upd_ne n1]
              exact same_new nT2 _ _ (s6 _ _ (s5 _ _ z))
            · rw [upd_ne nTr, upd_same]
              have e : hlt ns f l = ((ks.filter fun o => decide (o < l)).map fun o => o * f o).sum := hlt_perm sr.perm f l
              show some (HO.tup [V.int ((ws.map fun v => v / l * l).sum + ((ks.filter fun o => decide (o < l)).map fun o => o * f o).sum), V.int l]) = some (Tp [bnd ns f ws l, l])
              rw [← e]
              rfl
    · rintro σ H' ⟨ts, x3, x4, rfl, sm, ep, er, prs⟩
      have e : (rows ns f ws).take ((ns.map V.int).length + 1) = rows ns f ws := List.take_of_length_le (by
        rw [rows_len, List.length_map]
        exact Nat.le_refl _)
      rw [e] at prs
      exact ⟨_, rfl, q H' r ts sm nr0 er prs⟩
end
end K81
namespace K81
open PySem PySem.Spec PyProof.Rows L2
/-- the error's class, as the top leaves it -/
structure Err (K : PySem.W.Frag) (mg : Str → Option Value) (C : Addr) : Prop where
  ex : PySem.W.excIn K C [.type "ValueError", .type "Exception", .type "BaseException", .type "object"] "ValueError.__new__" = true
  g : mg "NotInOne" = some (.ref C)
  kp : PySem.W.keepIn K (.ref C) = true
  sub : PySem.W.subIn K (.ref C) (.type "BaseException") = some true
  ty : PySem.W.typeIn K (.ref C) = some (.type "type")
  is_ : PySem.W.exmOne K (.ref C) (.ref C) = some true
theorem WinOk.take {ws : List Int} (o : WinOk ws) (k : Nat) : WinOk (ws.take k) :=
  ⟨by rw [List.length_take]; have := o.few; omega, fun w h => o.non w (List.mem_of_mem_take h), fun w h => o.top w (List.mem_of_mem_take h)⟩
section
variable {P : Program} {w : World} {K : PySem.W.Frag} {mg : Str → Option Value} {base : Heap}
/-! ### best_bounds -/
def bests (ls : List Int) (f : Int → Int) (ws : List Int) : List (Int × Int) := (List.range ws.length).map fun k => (done ls f (ws.take (k + 1)), lenOf ls f (ws.take (k + 1)))
theorem bests_len (ls : List Int) (f : Int → Int) (ws : List Int) : (bests ls f ws).length = ws.length := by
  unfold bests
  rw [List.length_map, List.length_range]
theorem bests_at {ls : List Int} {f : Int → Int} {ws : List Int} {k : Nat} (h : k < ws.length) : (bests ls f ws)[k]? = some (done ls f (ws.take (k + 1)), lenOf ls f (ws.take (k + 1))) := by
  unfold bests
  rw [List.getElem?_map, List.getElem?_range h]
  rfl
def spBest (C : Addr) : Sp := fun vs H Q E => ∃ d ks f t ws ls, vs = [.ref d, .ref t] ∧ H d = some (Dk ks f) ∧ HeapOk ks f ∧ H t = some (Tp ws) ∧ WinOk ws ∧ Srt ls ks ∧
  (¬ Goes ls → ∀ H', Same H H' → E (.ref C) none H') ∧
  (Goes ls → ∀ H' p ts, Same H H' → H p = none → H' p = some (.lst (ts.map V.ref)) → Pairs H' ts (bests ls f ws) → Q (.ref p) H')
theorem pick {ls : List Int} {f : Int → Int} {ws : List Int} (L : Lens ls f) (G : Goes ls) (h : ∀ w ∈ ws, 0 ≤ w) {p : Int × Int} (hp : p ∈ (rows ls f ws).map swp) (le : ∀ q ∈ (rows ls f ws).map swp, p.1 < q.1 ∨ (p.1 = q.1 ∧ p.2 ≤ q.2)) :
    p = (done ls f ws, lenOf ls f ws) := by
  obtain ⟨r, hr, rfl⟩ := List.mem_map.mp hp
  have e := best_row L G ws h r hr fun q hq => le (swp q) (List.mem_map.mpr ⟨q, hq, rfl⟩)
  rw [e]
  rfl
theorem ok_best {C : Addr} (N : Free mg) (T : Err K mg C) (GC : Has P w K mg base CX0 "check_heap" 4 ["heap", "windows"] spCheck) (GO : Has P w K mg base CX0 "first_odd" 1 ["lengths"] (spOdd K)) (GB : Has P w K mg base CX0 "bounds_at" 2 ["heap", "windows"] spBounds)
    {f : Addr} {fd : FuncData} (D : Def K mg "best_bounds" sBest ["heap", "windows"] f fd) : Has P w K mg base (L2.CX P w) "best_bounds" 5 ["heap", "windows"] (spBest C) := by
  refine .of D (D.1.okX scBest (fun vs H Q E h => ?_) (fun cdv A outer s H vs Q E hr h => ?_))
  · obtain ⟨d, ks, f, t, ws, ls, rfl, _⟩ := h
    rfl
  · obtain ⟨d, ks, f, t, ws, ls, rfl, hd, ok, ht, wo, sr, qe, qg⟩ := h
    refine ⟨_, pss_cons (ps_expr (pcall GC hr (pa_cons (pv 0) (pa_cons (pv 1) pa_nil))))
      (pss_cons (ps_if (pt_cmpR op_notN (pcall GO (hr.mono (by decide)) (pa_cons (pe_callB (call_sortedDI rfl) (by rfl) N.sorted bt_sorted (pa_cons (pv 0) pa_nil)) pa_nil)) pe_non (nomark _))
        (pss_one (ps_raise rfl (takes_of rfl rfl rfl rfl) (own0 PySem.F.excBase_ValueError T.ex T.g T.kp (raises_own T.sub T.ty) rfl))) pss_nil)
      (pss_one (ps_ret (pe_lc (own := [("at", 2)]) (g := gName 2) (tt := tYes) rfl scBest.nd (pi_range1 rfl N.range (pa_cons (pe_callB call_len_seq (by rfl) N.len bt_len (pa_cons (pv 1) pa_nil)) pa_nil)) (blkOk_by (N := ["heap", "windows", "at"]) (sc := defScope sBest) (by decide +kernel))
        (fun _ _ _ _ _ => pg_name (i := 2) scBest.nd rfl (.inl rfl)) (fun _ _ _ _ _ => pts_nil)
        (fun _ _ _ _ _ => pe_callB (minQK K rfl rfl (hu_of hr)) (by rfl) N.min bt_min (pa_cons (pcall GB (hr.mono (by decide)) (pa_cons (pv 0) (pa_cons (pe_slice (sl_tupK K rfl) (pv 1) po_none (po_some (pe_op op_add (pv 2) pe_int))) pa_nil))) pa_nil)))))), ?_⟩
    refine ⟨_, rfl, _, rfl, d, ks, f, t, ws, rfl, hd, ok, ht, wo, fun H1 s1 => ?_⟩
    have few := ok.few
    refine ⟨_, rfl, d, _, ks, rfl, .inl (s1 _ _ hd), ents_keys ks f, by omega, fun ns p pm up np => ?_⟩
    have els : ns = ls := up_uniq (pm.trans sr.perm.symm) up (sr.up.imp fun z => by omega)
    subst els
    have s2 := s1.trans (same_new (o := .lst (ns.map V.int)) np)
    refine ⟨p, ns, rfl, .inl (.inl upd_same), fun l hl => ok.pos l (sr.mem.mp hl), fun G H2 s3 => ?_, fun G H2 o s3 => ?_⟩
    · refine ⟨rfl, false, rfl, iteF ?_⟩
      have sm := s2.trans s3
      have wf := wo.few
      have ht2 := sm _ _ ht
      have hn : (ws.map V.int).length = ws.length := List.length_map ..
      have bl := bests_len ns f ws
      refine ⟨_, rfl, t, _, rfl, .inr (.inl (.inl ht2)), (ws.map V.int).length, rfl, by omega, by omega, fun L nL => ?_⟩
      refine lc_it (n := (ws.map V.int).length) walk_range (fun j H' => Same H2 H' ∧ ∃ ts, H' L = some (.lst (ts.map V.ref)) ∧ Pairs H' ts ((bests ns f ws).take j)) ⟨same_new nL, [], upd_same, rfl, fun i t q a => by simp at a⟩ (fun _ _ _ _ => True.intro) ?_ ?_
      · rintro j x H' H3 hj ⟨s4, tl, eL, prs⟩ ⟨rfl, rfl⟩
        rw [hn] at hj
        have s5 := sm.trans s4
        refine ⟨rfl, yes (iteT ?_)⟩
        refine ⟨_, rfl, _, rfl, _, rfl, _, _, rfl, rfl, ((j + 1 : Nat) : Int), congrArg V.int (by omega), ?_⟩
        refine head_tup (s4 _ _ ht2) fun H4 t4 s6 e4 => ?_
        have s7 := s5.trans s6
        refine ⟨d, ks, f, t4, ws.take (j + 1), ns, rfl, s7 _ _ hd, e4, sr, by omega, by have := (wo.take (j + 1)).few; omega, fun k hk => ⟨ok.pos k hk, ok.top k hk⟩, fun H5 p5 ts5 s8 n5 e5 pr5 => ?_⟩
        have ne : (rows ns f (ws.take (j + 1))).map swp ≠ [] := fun z => by
          have := congrArg List.length z
          rw [List.length_map, rows_len] at this
          simp at this
        refine ⟨p5, ts5, _, rfl, .inl (.inl e5), pr5.1, ne, fun i t q a b => .inl (.inl (pr5.2 i t q a b)), fun i t q a b le => ?_⟩
        have eq := pick (ok.lens sr) G (wo.take (j + 1)).non (List.mem_of_getElem? b) le
        have et := pr5.2 i t q a b
        have sL := s6.trans s8
        refine ⟨_, sL _ _ eL, ?_, same_up nL (s4.trans sL), tl ++ [t], ?_, ?_⟩
        · rw [List.length_map, prs.1, List.length_take]
          exact Nat.lt_of_le_of_lt (Nat.min_le_right _ _) (small1000 (by omega))
        · rw [upd_same, List.map_append]
          rfl
        · have nt : t ≠ L := fun z => by
            rw [z, sL _ _ eL] at et
            cases et
          rw [take_at (bests_at hj)]
          refine Pairs.snoc ⟨prs.1, fun i' t' q' a' b' => ?_⟩ ?_
          · have z := sL _ _ (prs.2 i' t' q' a' b')
            have n1 : t' ≠ L := fun y => by
              rw [y, sL _ _ eL] at z
              cases z
            rw [upd_ne n1]
            exact z
          · rw [upd_ne nt, et, eq]
      · rintro H' ⟨s4, tl, eL, prs⟩
        rw [hn, ← bl, List.take_length] at prs
        exact qg G H' L tl (sm.trans s4) (sm.free nL) eL prs
    · exact ⟨rfl, true, rfl, iteT (qe G H2 (s2.trans s3))⟩
/-! ### most_done, bound_by -/
def spOf (C : Addr) (r : List Int → (Int → Int) → List Int → List Int) : Sp := fun vs H Q E => ∃ d ks f t ws ls, vs = [.ref d, .ref t] ∧ H d = some (Dk ks f) ∧ HeapOk ks f ∧ H t = some (Tp ws) ∧ WinOk ws ∧ Srt ls ks ∧
  (¬ Goes ls → ∀ H', Same H H' → E (.ref C) none H') ∧ (Goes ls → ∀ H' p, Same H H' → H p = none → H' p = some (Tp (r ls f ws)) → Q (.ref p) H')
theorem ok_most {C : Addr} (N : Free mg) (GB : Has P w K mg base (L2.CX P w) "best_bounds" 5 ["heap", "windows"] (spBest C))
    {f : Addr} {fd : FuncData} (D : Def K mg "most_done" sMost ["heap", "windows"] f fd) : Has P w K mg base (L2.CX P w) "most_done" 6 ["heap", "windows"] (spOf C dones) := by
  refine .of D (D.1.okX scMost (fun vs H Q E h => ?_) (fun cdv A outer s H vs Q E hr h => ?_))
  · obtain ⟨d, ks, f, t, ws, ls, rfl, _⟩ := h
    rfl
  · obtain ⟨d, ks, f, t, ws, ls, rfl, hd, ok, ht, wo, sr, qe, qg⟩ := h
    refine ⟨_, pss_one (ps_ret (pe_callTy call_tuple_of (by rfl) N.tuple bt_tuple (pa_cons (pe_lc (own := [("hours", 2), ("length", 3)]) (g := gTup K 2 (gCons (gName 2) (gCons (gName 3) gNil))) (tt := tYes) rfl scMost.nd
      (pi_list (pcallX GB hr (passes_call (takes_of rfl rfl rfl rfl) (fun _ _ _ _ h => h)) (pa_cons (pv 0) (pa_cons (pv 1) pa_nil)))) (blkOk_by (N := ["heap", "windows", "hours", "length"]) (sc := defScope sMost) (by decide +kernel))
      (fun _ _ _ _ _ => pg_tup rfl (pgs_cons (pg_name (i := 2) scMost.nd rfl (.inl rfl)) (pgs_cons (pg_name (i := 3) scMost.nd rfl (.inl rfl)) pgs_nil))) (fun _ _ _ _ _ => pts_nil) (fun _ _ _ _ _ => pv 2)) pa_nil))), ?_⟩
    refine ⟨_, rfl, _, rfl, d, ks, f, t, ws, ls, rfl, hd, ok, ht, wo, sr, qe, fun G H1 p ts s1 np ep prs => ?_⟩
    have wf := wo.few
    have bl := bests_len ls f ws
    have tl := prs.1
    have dl : (dones ls f ws).length = ws.length := tab_len ..
    refine ⟨p, rfl, ⟨_, .inl (.inl ep)⟩, fun L nL => lc_m (walk_list (K := K) (a := p) (xs := ts.map V.ref)) ((dones ls f ws).map V.int) (by rw [List.length_map, List.length_map, dl]; omega) (by rw [List.length_map, dl]; omega) nL (fun H' s => .inl (.inl (s _ _ ep))) (fun j x H2 H3 hj pp y => ?_) fun H' s e => ?_⟩
    · obtain ⟨rfl, ex⟩ := y
      obtain ⟨t', et, rfl⟩ := refs_at ex
      have hj : j < ws.length := by
        have := (List.getElem?_eq_some_iff.mp et).1
        omega
      have z := pp.same _ _ (prs.2 j t' _ et (bests_at hj))
      refine ⟨t', [.int _, .int _], rfl, .inl (.inl z), rfl, _, _, rfl, _, _, rfl, rfl, rfl, yes (iteT ?_)⟩
      exact ⟨_, rfl, pp.fin (.refl _) (at_ints (tab_at hj))⟩
    · exact ⟨L, _, rfl, .inl ⟨.inl (.inl e), fun o no => qg G _ o ((s1.trans s).trans (same_new no)) ((s1.trans s).free no) upd_same⟩⟩
theorem ok_bound {C : Addr} (N : Free mg) (GB : Has P w K mg base (L2.CX P w) "best_bounds" 5 ["heap", "windows"] (spBest C))
    {f : Addr} {fd : FuncData} (D : Def K mg "bound_by" sBound ["heap", "windows"] f fd) : Has P w K mg base (L2.CX P w) "bound_by" 6 ["heap", "windows"] (spOf C lens) := by
  refine .of D (D.1.okX scBound (fun vs H Q E h => ?_) (fun cdv A outer s H vs Q E hr h => ?_))
  · obtain ⟨d, ks, f, t, ws, ls, rfl, _⟩ := h
    rfl
  · obtain ⟨d, ks, f, t, ws, ls, rfl, hd, ok, ht, wo, sr, qe, qg⟩ := h
    refine ⟨_, pss_one (ps_ret (pe_callTy call_tuple_of (by rfl) N.tuple bt_tuple (pa_cons (pe_lc (own := [("hours", 2), ("length", 3)]) (g := gTup K 2 (gCons (gName 2) (gCons (gName 3) gNil))) (tt := tYes) rfl scBound.nd
      (pi_list (pcallX GB hr (passes_call (takes_of rfl rfl rfl rfl) (fun _ _ _ _ h => h)) (pa_cons (pv 0) (pa_cons (pv 1) pa_nil)))) (blkOk_by (N := ["heap", "windows", "hours", "length"]) (sc := defScope sBound) (by decide +kernel))
      (fun _ _ _ _ _ => pg_tup rfl (pgs_cons (pg_name (i := 2) scBound.nd rfl (.inl rfl)) (pgs_cons (pg_name (i := 3) scBound.nd rfl (.inl rfl)) pgs_nil))) (fun _ _ _ _ _ => pts_nil) (fun _ _ _ _ _ => pv 3)) pa_nil))), ?_⟩
    refine ⟨_, rfl, _, rfl, d, ks, f, t, ws, ls, rfl, hd, ok, ht, wo, sr, qe, fun G H1 p ts s1 np ep prs => ?_⟩
    have wf := wo.few
    have bl := bests_len ls f ws
    have tl := prs.1
    have dl : (lens ls f ws).length = ws.length := tab_len ..
    refine ⟨p, rfl, ⟨_, .inl (.inl ep)⟩, fun L nL => lc_m (walk_list (K := K) (a := p) (xs := ts.map V.ref)) ((lens ls f ws).map V.int) (by rw [List.length_map, List.length_map, dl]; omega) (by rw [List.length_map, dl]; omega) nL (fun H' s => .inl (.inl (s _ _ ep))) (fun j x H2 H3 hj pp y => ?_) fun H' s e => ?_⟩
    · obtain ⟨rfl, ex⟩ := y
      obtain ⟨t', et, rfl⟩ := refs_at ex
      have hj : j < ws.length := by
        have := (List.getElem?_eq_some_iff.mp et).1
        omega
      have z := pp.same _ _ (prs.2 j t' _ et (bests_at hj))
      refine ⟨t', [.int _, .int _], rfl, .inl (.inl z), rfl, _, _, rfl, _, _, rfl, rfl, rfl, yes (iteT ?_)⟩
      exact ⟨_, rfl, pp.fin (.refl _) (at_ints (tab_at hj))⟩
    · exact ⟨L, _, rfl, .inl ⟨.inl (.inl e), fun o no => qg G _ o ((s1.trans s).trans (same_new no)) ((s1.trans s).free no) upd_same⟩⟩
end
end K81
namespace K81
open PySem PySem.Spec PyProof.Rows L2
/-- the drawer: its cells, and four numbers -/
def Hand (H : Hp) (h c : Addr) : Prop := ∃ (cells : List Int) (a g s n : Int), H h = some (.lst [.ref c, .int a, .int g, .int s, .int n]) ∧ H c = some (Ls cells) ∧ c ≠ h ∧ 0 ≤ a
/-- all but h stands as it stood -/
def Kept (h : Addr) (H H' : Hp) : Prop := ∀ b o, b ≠ h → H b = some o → H' b = some o
theorem Kept.refl (h : Addr) (H : Hp) : Kept h H H := fun _ _ _ e => e
theorem Kept.trans {h : Addr} {H H1 H2 : Hp} (a : Kept h H H1) (b : Kept h H1 H2) : Kept h H H2 := fun c o n e => b c o n (a c o n e)
theorem Kept.of {h : Addr} {H H' : Hp} (s : Same H H') : Kept h H H' := fun b o _ e => s b o e
theorem Kept.up {h : Addr} {H H' : Hp} {o : HO} (s : Kept h H H') : Kept h H (upd H' h o) := fun b x n e => by
  rw [upd_ne n]
  exact s b x n e
theorem Kept.free {h : Addr} {H H' : Hp} (s : Kept h H H') {p : Addr} (n : p ≠ h) (e : H' p = none) : H p = none := by
  cases q : H p with
  | none => rfl
  | some o =>
    rw [s p o n q] at e
    cases e
theorem Hand.same {H H' : Hp} {h c : Addr} (x : Hand H h c) (s : Same H H') : Hand H' h c := by
  obtain ⟨cells, a, g, t, n, e1, e2, ne, e3⟩ := x
  exact ⟨cells, a, g, t, n, s _ _ e1, s _ _ e2, ne, e3⟩
theorem Hand.nf {H : Hp} {h c p : Addr} (x : Hand H h c) (n : H p = none) : p ≠ h := fun z => by
  obtain ⟨_, _, _, _, _, e, _⟩ := x
  rw [← z, n] at e
  cases e
theorem Hand.nc {H : Hp} {h c p : Addr} (x : Hand H h c) (n : H p = none) : p ≠ c := fun z => by
  obtain ⟨_, _, _, _, _, _, e, _⟩ := x
  rw [← z, n] at e
  cases e
theorem Hand.up {H : Hp} {h c p : Addr} {o : HO} (x : Hand H h c) (n1 : p ≠ h) (n2 : p ≠ c) : Hand (upd H p o) h c := by
  obtain ⟨cells, a, g, t, m, e1, e2, ne, e3⟩ := x
  exact ⟨cells, a, g, t, m, relock e1 n1.symm, relock e2 n2.symm, ne, e3⟩
theorem Kept.fresh {h p : Addr} {H H' : Hp} {o : HO} (s : Kept h H H') (e : H p = none) : Kept h H (upd H' p o) := fun b x n z => by
  rw [upd_ne (ne_of_none z e)]
  exact s b x n z
theorem fmod_rng {a b : Int} (h : 1 ≤ b) : 0 ≤ a.fmod b ∧ a.fmod b < b := by
  rw [fmod_pos h]
  exact ⟨Int.emod_nonneg a (by omega), Int.emod_lt_of_pos a (by omega)⟩
section
variable {P : Program} {w : World} {K : PySem.W.Frag} {mg : Str → Option Value} {base : Heap}
abbrev sHand : Stmt := topS 32
abbrev sDraw : Stmt := topS 33
theorem scHand : FnScope ["_law_script", "_law_cells", "_law_cell"] ["_law_script"] (defScope sHand) := ⟨rfl, rfl, rfl, by decide +kernel, rfl, by decide +kernel, by decide +kernel⟩
theorem scDraw : FnScope ["_law_hand_here", "_law_many", "_law_cell", "_law_digit", "_law_number"] ["_law_hand_here", "_law_many"] (defScope sDraw) := ⟨rfl, rfl, rfl, by decide +kernel, rfl, by decide +kernel, by decide +kernel⟩
def spHand (K : PySem.W.Frag) : Sp := fun vs H Q _ => ∃ (a : Addr) (ns : List Int), vs = [.ref a] ∧ SqL K H a (ns.map V.int) ∧ ns.length ≤ 63 ∧ ∀ H' h c, Same H H' → H h = none → Hand H' h c → Q (.ref h) H'
def spDraw : Sp := fun vs H Q _ => ∃ h c m, vs = [.ref h, .int m] ∧ Hand H h c ∧ 1 ≤ m ∧ m < 1073741824 ∧ ∀ H' r, Kept h H H' → Hand H' h c → 0 ≤ r → r < m → Q (.int r) H'
theorem ok_hand (N : Free mg) {f : Addr} {fd : FuncData} (D : Def K mg "_law_hand" sHand ["_law_script"] f fd) : Has P w K mg base CX0 "_law_hand" 1 ["_law_script"] (spHand K) := by
  refine .of D (D.1.ok scHand (fun vs H Q E h => ?_) (fun cdv A outer s H vs Q E hr h => ?_))
  · obtain ⟨a, ns, rfl, _⟩ := h
    rfl
  · obtain ⟨a, ns, rfl, hS, few, q⟩ := h
    refine ⟨_, pss_cons (ps_setLc (i := 1) (own := [("_law_cell", 2)]) (g := gName 2) (tt := tYes) rfl scHand.nd rfl rfl (sw_true rfl rfl rfl (by decide +kernel)) (pi_list (pe_slice sl_list (pv 0) po_none (po_some pe_int)))
        (blkOk_by (N := ["_law_script", "_law_cells", "_law_cell"]) (sc := defScope sHand) (by decide +kernel)) (fun _ _ _ _ _ => pg_name (i := 2) scHand.nd rfl (.inl rfl)) (fun _ _ _ _ _ => pts_nil)
        (fun _ _ _ _ _ => pe_callB call_abs (by rfl) N.abs bt_abs (pa_cons (pe_callTy call_int1 (by rfl) N.int bt_int (pa_cons (pv 2) pa_nil)) pa_nil)))
      (pss_one (ps_ret (pe_lst (pa_cons (pv 1) (pa_cons pe_int (pa_cons pe_int (pa_cons (pe_op op_add pe_int (pe_callB call_len_seq (by rfl) N.len bt_len (pa_cons (pv 1) pa_nil))) (pa_cons pe_int pa_nil)))))))), ?_⟩
    refine ⟨_, rfl, ((63 : Nat) : Int), rfl, a, _, rfl, hS, fun c nc => ?_⟩
    rw [cut_head, ← List.map_take]
    have tl : (ns.take 63).length ≤ 1000 := by
      rw [List.length_take]
      omega
    refine ⟨c, rfl, ⟨_, .inl (.inl upd_same)⟩, fun L nL => lc_m (walk_list (K := K) (a := c) (xs := (ns.take 63).map V.int)) (((ns.take 63).map fun n => if n < 0 then -n else n).map V.int) (by rw [List.length_map, List.length_map, List.length_map]) (by rw [List.length_map, List.length_map]; exact tl) nL
      (fun H' s => .inl (.inl (s _ _ upd_same))) (fun j x H2 H3 hj pp y => ?_) fun H' s e => ?_⟩
    · obtain ⟨rfl, ex⟩ := y
      obtain ⟨n, en, rfl⟩ := ints_at ex
      refine ⟨rfl, yes (iteT ⟨_, rfl, .inl ⟨n, rfl, n, rfl, pp.fin (.refl _) ?_⟩⟩)⟩
      rw [List.getElem?_map, List.getElem?_map, en]
      rfl
    · refine ⟨_, rfl, _, rfl, L, _, rfl, .inl (.inl (.inl e)), _, _, rfl, rfl, (by decide : 5 ≤ sizeLine), fun h nh => ?_⟩
      have sm := (same_new nc).trans s
      refine q _ h L (sm.trans (same_new nh)) (sm.free nh) ⟨(ns.take 63).map fun n => if n < 0 then -n else n, 0, 0, _, 0, upd_same, ?_, ne_of_none e nh, Int.le_refl _⟩
      exact same_new nh _ _ e
theorem ok_draw (N : Free mg) {f : Addr} {fd : FuncData} (D : Def K mg "_law_draw" sDraw ["_law_hand_here", "_law_many"] f fd) : Has P w K mg base CX0 "_law_draw" 1 ["_law_hand_here", "_law_many"] spDraw := by
  refine .of D (D.1.ok scDraw (fun vs H Q E h => ?_) (fun cdv A outer s H vs Q E hr h => ?_))
  · obtain ⟨h, c, m, rfl, _⟩ := h
    rfl
  · obtain ⟨h, c, m, rfl, hh, m1, m2, q⟩ := h
    refine ⟨_, Evl.pss_cut (ps_if (PW.pt (pw_and (pt_cmpR op_eq (pe_ix ix_list (pv 0) pe_int (fun _ _ => rfl)) pe_int (nomark _)) (pw_and1 (pt_cmpR op_lt (pe_ix ix_list (pv 0) pe_int (fun _ _ => rfl)) (pe_callB call_len_seq (by rfl) N.len bt_len (pa_cons (pe_ix ix_list (pv 0) pe_int (fun _ _ => rfl)) pa_nil)) (nomark _)))))
        (pss_cons (ps_set (i := 2) scDraw.nd rfl (.inl rfl) (pe_ix ix_list (pe_ix ix_list (pv 0) pe_int (fun _ _ => rfl)) (pe_ix ix_list (pv 0) pe_int (fun _ _ => rfl)) (fun _ _ => rfl)))
        (pss_cons (ps_asg (pe_op op_add (pe_ix ix_list (pv 0) pe_int (fun _ _ => rfl)) pe_int) (pg_sub (pv 0) pe_int set_list))
        (pss_cons (ps_asg (pe_op op_modN (pe_callTy call_int1 (by rfl) N.int bt_int (pa_cons (pe_op op_add (pe_op op_add (pe_op op_mul (pe_ix ix_list (pv 0) pe_int (fun _ _ => rfl)) pe_int) (pv 2)) pe_int) pa_nil)) pe_int) (pg_sub (pv 0) pe_int set_list))
        (pss_one (ps_if (pt_cmpR op_ge (pv 2) (pe_op op_pow pe_int pe_int) (nomark _)) (pss_one (ps_asg (pv 2) (pg_sub (pv 0) pe_int set_list))) pss_nil))))) pss_nil)
      (pss_cons (ps_if (pt_cmpR op_gt (pe_ix ix_list (pv 0) pe_int (fun _ _ => rfl)) pe_int (nomark _))
        (pss_cons (ps_set (i := 3) scDraw.nd rfl (.inl rfl) (pe_op op_modN (pe_callTy call_int1 (by rfl) N.int bt_int (pa_cons (pe_ix ix_list (pv 0) pe_int (fun _ _ => rfl)) pa_nil)) (pv 1)))
        (pss_cons (ps_asg (pe_op op_fdivN (pe_ix ix_list (pv 0) pe_int (fun _ _ => rfl)) (pv 1)) (pg_sub (pv 0) pe_int set_list))
        (pss_one (ps_ret (pv 3))))) pss_nil)
      (pss_cons (ps_asg (pe_op op_add (pe_ix ix_list (pv 0) pe_int (fun _ _ => rfl)) pe_int) (pg_sub (pv 0) pe_int set_list))
      (pss_cons (ps_set (i := 4) scDraw.nd rfl (.inl rfl) (pe_op op_modN (pe_callTy call_int1 (by rfl) N.int bt_int (pa_cons (pe_op op_mul (pe_callTy call_int1 (by rfl) N.int bt_int (pa_cons (pe_op op_add (pe_ix ix_list (pv 0) pe_int (fun _ _ => rfl)) (pe_op op_mul pe_int (pe_ix ix_list (pv 0) pe_int (fun _ _ => rfl)))) pa_nil)) pe_int) pa_nil)) pe_int))
      (pss_cons (ps_set (i := 4) scDraw.nd rfl (.inl rfl) (pe_op op_modN (pe_callTy call_int1 (by rfl) N.int bt_int (pa_cons (pe_op op_mul (pv 4) (pe_op op_add (pe_op op_fdivN (pv 4) pe_int) pe_int)) pa_nil)) pe_int))
      (pss_cons (ps_set (i := 4) scDraw.nd rfl (.inl rfl) (pe_op op_modN (pe_callTy call_int1 (by rfl) N.int bt_int (pa_cons (pe_op op_mul (pv 4) (pe_op op_add (pe_op op_fdivN (pv 4) pe_int) pe_int)) pa_nil)) pe_int))
      (pss_one (ps_ret (pe_op op_modN (pe_callTy call_int1 (by rfl) N.int bt_int (pa_cons (pe_op op_fdivN (pv 4) pe_int) pa_nil)) (pv 1))))))))), ?_⟩
    refine ⟨fun σ H' => ∃ x2, σ = [some (.ref h), some (.int m), x2, none, none] ∧ Kept h H H' ∧ Hand H' h c, ?_, ?_⟩
    · obtain ⟨cells, a, g, z, n, e1, e2, ne, a0⟩ := hh
      have same : ∃ x2, L2.start ["_law_hand_here", "_law_many", "_law_cell", "_law_digit", "_law_number"] [V.ref h, V.int m] = [some (.ref h), some (.int m), x2, none, none] ∧ Kept h H H ∧ Hand H h c := ⟨none, rfl, .refl _ _, cells, a, g, z, n, e1, e2, ne, a0⟩
      refine ⟨_, rfl, h, _, 2, .int g, rfl, rfl, .inl (.inl e1), rfl, rfl, _, rfl, ite2 (fun _ => ?_) fun _ => iteF same⟩
      refine ⟨_, rfl, h, _, 1, .int a, rfl, rfl, .inl (.inl e1), rfl, _, rfl, h, _, 0, .ref c, rfl, rfl, .inl (.inl e1), rfl, c, _, rfl, .inl (.inl (.inl e2)), _, _, rfl, rfl, _, rfl, ite2 (fun lt => ?_) fun _ => same⟩
      have lt := of_decide_eq_true lt
      rw [List.length_map] at lt
      have la : a.toNat < cells.length := by omega
      have ca : (cells.map V.int)[a.toNat]? = some (.int cells[a.toNat]) := at_ints (List.getElem?_eq_getElem la)
      refine ⟨_, rfl, h, _, 0, .ref c, rfl, rfl, .inl (.inl e1), rfl, _, rfl, h, _, 1, .int a, rfl, rfl, .inl (.inl e1), rfl, c, _, a, .int cells[a.toNat], rfl, rfl, .inl (.inl e2), at_of (by omega) ca, ?_⟩
      refine ⟨_, rfl, h, _, 1, .int a, rfl, rfl, .inl (.inl e1), rfl, _, _, rfl, rfl, _, rfl, h, _, 1, 1, rfl, rfl, e1, rfl, ?_⟩
      have f1 : (upd H h (.lst [.ref c, .int (a + 1), .int g, .int z, .int n])) h = some (.lst [.ref c, .int (a + 1), .int g, .int z, .int n]) := upd_same
      have k1 : Kept h H (upd H h (.lst [.ref c, .int (a + 1), .int g, .int z, .int n])) := (Kept.refl h H).up
      refine ⟨_, rfl, h, _, 3, .int z, rfl, rfl, .inl (.inl f1), rfl, _, _, rfl, rfl, .inr ⟨by decide, by decide⟩, _, rfl, _, _, rfl, rfl, _, _, rfl, rfl, .inl ⟨_, rfl, ?_⟩⟩
      refine ⟨_, _, rfl, rfl, (by decide : (2147483629 : Int) ≠ 0), _, rfl, h, _, 3, 3, rfl, rfl, f1, rfl, ?_⟩
      have k2 := k1.up (o := .lst [.ref c, .int (a + 1), .int g, .int ((z * 69621 + cells[a.toNat] + 11).fmod 2147483629), .int n])
      have f2 : (upd (upd H h (.lst [.ref c, .int (a + 1), .int g, .int z, .int n])) h (.lst [.ref c, .int (a + 1), .int g, .int ((z * 69621 + cells[a.toNat] + 11).fmod 2147483629), .int n])) h =
        some (.lst [.ref c, .int (a + 1), .int g, .int ((z * 69621 + cells[a.toNat] + 11).fmod 2147483629), .int n]) := upd_same
      refine ⟨_, rfl, _, _, rfl, rfl, ⟨by decide, by decide, by decide⟩, _, _, rfl, rfl, _, rfl, ite2 (fun _ => ?_) fun _ => ?_⟩
      · refine ⟨_, rfl, _, rfl, h, _, 2, 2, rfl, rfl, f2, rfl, some (.int cells[a.toNat]), rfl, k2.up, cells, a + 1, cells[a.toNat], _, n, upd_same, ?_, ne, by omega⟩
        exact k2.up _ _ ne e2
      · exact ⟨some (.int cells[a.toNat]), rfl, k2, cells, a + 1, g, _, n, f2, k2 _ _ ne e2, ne, by omega⟩
    · rintro σ H' ⟨x2, rfl, kp, cells, a, g, z, n, e1, e2, ne, a0⟩
      refine ⟨_, rfl, h, _, 2, .int g, rfl, rfl, .inl (.inl e1), rfl, _, _, rfl, rfl, _, rfl, ite2 (fun _ => ?_) fun _ => ?_⟩
      · refine ⟨_, rfl, h, _, 2, .int g, rfl, rfl, .inl (.inl e1), rfl, .inl ⟨_, rfl, ?_⟩⟩
        refine ⟨_, rfl, _, _, rfl, rfl, by omega, ?_⟩
        refine ⟨_, rfl, h, _, 2, .int g, rfl, rfl, .inl (.inl e1), rfl, _, rfl, _, _, rfl, rfl, ⟨by omega, by omega⟩, _, rfl, h, _, 2, 2, rfl, rfl, e1, rfl, ?_⟩
        have r := fmod_rng (a := g) m1
        exact ⟨_, rfl, q _ _ kp.up ⟨cells, a, _, z, n, upd_same, (Kept.refl h H').up _ _ ne e2, ne, a0⟩ r.1 r.2⟩
      · refine ⟨_, rfl, h, _, 4, .int n, rfl, rfl, .inl (.inl e1), rfl, _, _, rfl, rfl, _, rfl, h, _, 4, 4, rfl, rfl, e1, rfl, ?_⟩
        have f1 : (upd H' h (.lst [.ref c, .int a, .int g, .int z, .int (n + 1)])) h = some (.lst [.ref c, .int a, .int g, .int z, .int (n + 1)]) := upd_same
        have k1 := kp.up (o := .lst [.ref c, .int a, .int g, .int z, .int (n + 1)])
        have hand : Hand (upd H' h (.lst [.ref c, .int a, .int g, .int z, .int (n + 1)])) h c := ⟨cells, a, g, z, n + 1, f1, (Kept.refl h H').up _ _ ne e2, ne, a0⟩
        refine ⟨_, rfl, h, _, 3, .int z, rfl, rfl, .inl (.inl f1), rfl, _, rfl, h, _, 4, .int (n + 1), rfl, rfl, .inl (.inl f1), rfl, _, _, rfl, rfl, .inl ⟨by decide, by decide⟩, _, _, rfl, rfl, .inl ⟨_, rfl, ?_⟩⟩
        refine ⟨_, _, rfl, rfl, .inr ⟨by decide, by decide⟩, .inl ⟨_, rfl, ?_⟩⟩
        refine ⟨_, _, rfl, rfl, (by decide : (2147483647 : Int) ≠ 0), ?_⟩
        have r1 := fmod_rng (a := (z + 7919 * (n + 1)) * 48271) (b := 2147483647) (by decide)
        generalize hv : ((z + 7919 * (n + 1)) * 48271).fmod 2147483647 = v1 at r1
        refine ⟨_, rfl, _, rfl, _, _, rfl, rfl, ⟨by decide, by decide⟩, _, _, rfl, rfl, _, _, rfl, rfl, .inl ?_, .inl ⟨_, rfl, ?_⟩⟩
        · rw [hv]
          omega
        refine ⟨_, _, rfl, rfl, (by decide : (2147483647 : Int) ≠ 0), ?_⟩
        have r2 := fmod_rng (a := ((z + 7919 * (n + 1)) * 48271).fmod 2147483647 * ((((z + 7919 * (n + 1)) * 48271).fmod 2147483647).fdiv 1009 + 69621)) (b := 2147483647) (by decide)
        refine ⟨_, rfl, _, rfl, _, _, rfl, rfl, ⟨by decide, by decide⟩, _, _, rfl, rfl, _, _, rfl, rfl, .inl ?_, .inl ⟨_, rfl, ?_⟩⟩
        · omega
        refine ⟨_, _, rfl, rfl, (by decide : (2147483399 : Int) ≠ 0), ?_⟩
        refine ⟨_, rfl, _, _, rfl, rfl, ⟨by decide, by decide⟩, .inl ⟨_, rfl, ?_⟩⟩
        refine ⟨_, rfl, _, _, rfl, rfl, by omega, ?_⟩
        exact q _ _ k1 hand (fmod_rng m1).1 (fmod_rng m1).2
end
end K81
namespace K81
open PySem PySem.Spec PyProof.Rows L2
theorem ix_in {n : Nat} {d : Int} (h0 : 0 ≤ d) (h1 : d < n) : seqIndex? d n = some d.toNat := (ixN_seq (by unfold ixN; rw [if_pos h0, if_pos h1])).1
theorem er_map : ∀ (l : List Int) (i : Nat), (l.map V.int).eraseIdx i = (l.eraseIdx i).map V.int
  | [], _ => rfl
  | _ :: _, 0 => rfl
  | x :: l, i + 1 => congrArg (V.int x :: ·) (er_map l i)
theorem er_perm : ∀ {l : List Int} {i : Nat} {y : Int}, l[i]? = some y → (y :: l.eraseIdx i).Perm l
  | [], _, _, h => by simp at h
  | x :: l, 0, y, h => by
    have e : x = y := by simpa using h
    subst e
    exact .refl _
  | x :: l, i + 1, y, h => (List.Perm.swap x y _).trans ((er_perm (l := l) (i := i) (by simpa using h)).cons x)
theorem er_len : ∀ {l : List Int} {i : Nat}, i < l.length → (l.eraseIdx i).length + 1 = l.length
  | [], _, h => absurd h (by simp)
  | _ :: _, 0, _ => rfl
  | _ :: l, i + 1, h => congrArg (· + 1) (er_len (l := l) (i := i) (by simpa using h))
theorem pick_perm {fs ps : List Int} {k : Nat} {y : Int} (h : ps[k]? = some y) : ((fs ++ [y]) ++ ps.eraseIdx k).Perm (fs ++ ps) := by
  rw [List.append_assoc]
  exact List.Perm.append_left fs (er_perm h)
section
variable {P : Program} {w : World} {K : PySem.W.Frag} {mg : Str → Option Value} {base : Heap}
abbrev sShuf : Stmt := topS 35
theorem scShuf : FnScope ["_law_hand_here", "_law_things", "_law_pool", "_law_found"] ["_law_hand_here", "_law_things"] (defScope sShuf) := ⟨rfl, rfl, rfl, by decide +kernel, rfl, by decide +kernel, by decide +kernel⟩
def spShuf (K : PySem.W.Frag) : Sp := fun vs H Q _ => ∃ (h c a : Addr) (ls : List Int), vs = [.ref h, .ref a] ∧ Hand H h c ∧ SqL K H a (ls.map V.int) ∧ ls.length ≤ 1000 ∧ ∀ H' p ks, Kept h H H' → Hand H' h c → H p = none → H' p = some (Ls ks) → ks.Perm ls → Q (.ref p) H'
theorem ok_shuf (N : Free mg) (GD : Has P w K mg base CX0 "_law_draw" 1 ["_law_hand_here", "_law_many"] spDraw) {f : Addr} {fd : FuncData} (D : Def K mg "_law_shuffled" sShuf ["_law_hand_here", "_law_things"] f fd) :
    Has P w K mg base CX0 "_law_shuffled" 2 ["_law_hand_here", "_law_things"] (spShuf K) := by
  refine .of D (D.1.ok scShuf (fun vs H Q E h => ?_) (fun cdv A outer s H vs Q E hr h => ?_))
  · obtain ⟨h, c, a, ls, rfl, _⟩ := h
    rfl
  · obtain ⟨h, c, a, ls, rfl, hh, hS, few, q⟩ := h
    refine ⟨_, pss_cons (ps_set (i := 2) scShuf.nd rfl (.inl rfl) (pe_callTy call_list_of (by rfl) N.list bt_list (pa_cons (pv 1) pa_nil)))
      (pss_cons (ps_set (i := 3) scShuf.nd rfl (.inl rfl) (pe_lst pa_nil))
      (pss_cons (ps_while PassesOwn.never (pt_cmpR op_gt (pe_callB call_len_seq (by rfl) N.len bt_len (pa_cons (pv 2) pa_nil)) pe_int (nomark _))
        (pss_one (ps_expr (pe_bm PySem.F.plainAttrs_list PySem.F.slot_list_append PySem.F.type_list_append mt_append (pv 3) (pa_cons
          (pe_bm PySem.F.plainAttrs_list PySem.F.slot_list_pop PySem.F.type_list_pop mt_popAt (pv 2) (pa_cons (pcall GD hr (pa_cons (pv 0) (pa_cons (pe_callB call_len_seq (by rfl) N.len bt_len (pa_cons (pv 2) pa_nil)) pa_nil))) pa_nil)) pa_nil)))))
      (pss_one (ps_ret (pv 3))))), ?_⟩
    refine ⟨_, rfl, a, _, rfl, .inl hS, fun b nb => ⟨Nat.zero_le _, fun r nr => ?_⟩⟩
    have s2 := (same_new (o := .lst (ls.map V.int)) nb).trans (same_new (o := .lst []) nr)
    have nr0 := (same_new (o := .lst (ls.map V.int)) nb).free nr
    have nrb : r ≠ b := fun z => by
      rw [z, upd_same] at nr
      cases nr
    have nbh := hh.nf nb
    have nrh := hh.nf nr0
    have nbc := hh.nc nb
    have nrc := hh.nc nr0
    refine ⟨fun m σ H' => ∃ ps fs, ps.length = m ∧ σ = [some (.ref h), some (.ref a), some (.ref b), some (.ref r)] ∧ Kept h H H' ∧ Hand H' h c ∧ H' b = some (Ls ps) ∧ H' r = some (Ls fs) ∧ (fs ++ ps).Perm ls,
      ⟨ls.length, ls, [], rfl, rfl, .of s2, hh.same s2, ?_, upd_same, .refl _⟩, ?_⟩
    · rw [upd_ne nrb.symm, upd_same]
      rfl
    · rintro m σ H' ⟨ps, fs, rfl, rfl, kp, hd, eb, er, pm⟩
      have lp := pm.length_eq
      rw [List.length_append] at lp
      refine ⟨_, rfl, b, _, rfl, .inl (.inl (.inl eb)), _, _, rfl, rfl, _, rfl, ite2 (fun t => ?_) (fun t => ?_)⟩
      · have t := of_decide_eq_true t
        rw [List.length_map] at t
        refine ⟨fun σ' H2 => ∃ ps' fs', ps'.length < ps.length ∧ σ' = [some (.ref h), some (.ref a), some (.ref b), some (.ref r)] ∧ Kept h H H2 ∧ Hand H2 h c ∧ H2 b = some (Ls ps') ∧ H2 r = some (Ls fs') ∧ (fs' ++ ps').Perm ls,
          fun σ' H2 ⟨ps', fs', lt, z⟩ => ⟨ps'.length, lt, ps', fs', rfl, z⟩, ?_⟩
        refine ⟨_, rfl, .inl ⟨rfl, _, .inl (.inl er)⟩, _, rfl, .inl ⟨rfl, _, .inl (.inl eb)⟩, _, rfl, _, rfl, b, _, rfl, .inl (.inl (.inl eb)), h, c, (ps.map V.int).length, rfl, hd, by rw [List.length_map]; omega, by rw [List.length_map]; omega, fun H2 i kp2 hd2 i0 i1 => ?_⟩
        rw [List.length_map] at i1
        have eb2 := kp2 _ _ nbh eb
        have er2 := kp2 _ _ nrh er
        have hi : i.toNat < ps.length := by omega
        have gi : ps[i.toNat]? = some ps[i.toNat] := List.getElem?_eq_getElem hi
        refine ⟨b, _, i, i.toNat, .int ps[i.toNat], rfl, rfl, eb2, by omega, by omega, ix_in i0 (by rw [List.length_map]; exact i1), at_ints gi, ?_⟩
        refine ⟨r, _, _, rfl, rfl, by rw [upd_ne nrb]; exact er2, ?_, ps.eraseIdx i.toNat, fs ++ [ps[i.toNat]], ?_, rfl, ((kp.trans kp2).fresh nb).fresh nr0, (hd2.up nbh nbc).up nrh nrc, ?_, ?_, (pick_perm gi).trans pm⟩
        · rw [List.length_map]
          exact small1000 (by omega)
        · have := er_len hi
          omega
        · rw [upd_ne nrb.symm, upd_same, er_map]
          rfl
        · rw [upd_same]
          unfold Ls
          rw [List.map_append]
          rfl
      · have t : ¬ (0 : Int) < (ps.length : Int) := fun z => t (decide_eq_true (by rw [List.length_map]; exact z))
        have e : ps = [] := List.eq_nil_of_length_eq_zero (by omega)
        subst e
        rw [List.append_nil] at pm
        exact ⟨_, rfl, q H' r fs kp hd nr0 er pm⟩
end
end K81
namespace K81
open PySem PySem.Spec PyProof.Rows L2
structure Small (ks : List Int) (f : Int → Int) : Prop where
  one : 1 ≤ ks.length
  few : ks.length ≤ 4
  nd : ks.Nodup
  pos : ∀ k ∈ ks, 1 ≤ k
  top : ∀ k ∈ ks, k ≤ 1000
  non : ∀ k ∈ ks, 0 ≤ f k
  lot : ∀ k ∈ ks, f k ≤ 3
theorem Small.ok {ks : List Int} {f : Int → Int} (s : Small ks f) : HeapOk ks f :=
  ⟨s.one, by have := s.few; omega, s.nd, s.pos, fun k h => by have := s.top k h; omega, s.non, fun k h => by have := s.lot k h; omega⟩
/-- pairs as a dict's entries -/
def prs (qs : List (Int × Int)) : List (Key × V) := qs.map fun q => (Sum.inl q.1, V.int q.2)
def ofPairs : List (Int × Int) → Int → Int
  | [], _ => 0
  | q :: r, k => if q.1 = k then q.2 else ofPairs r k
theorem ofPairs_mem : ∀ {qs : List (Int × Int)} {q : Int × Int}, (qs.map (·.1)).Nodup → q ∈ qs → ofPairs qs q.1 = q.2
  | [], _, _, h => (List.not_mem_nil h).elim
  | a :: r, q, nd, h => by
    have nd : (a.1 :: r.map (·.1)).Nodup := nd
    obtain ⟨n1, n2⟩ := List.nodup_cons.mp nd
    unfold ofPairs
    rcases List.mem_cons.mp h with z | z
    · rw [z, if_pos rfl]
    · have ne : a.1 ≠ q.1 := fun e => n1 (by rw [e]; exact List.mem_map.mpr ⟨q, z, rfl⟩)
      rw [if_neg ne]
      exact ofPairs_mem n2 z
theorem prs_ents {qs : List (Int × Int)} (nd : (qs.map (·.1)).Nodup) : prs qs = ents (qs.map (·.1)) (ofPairs qs) := by
  unfold prs ents
  rw [List.map_map]
  exact List.map_congr_left fun q hq => by
    show (Sum.inl q.1, V.int q.2) = (Sum.inl q.1, V.int (ofPairs qs q.1))
    rw [ofPairs_mem nd hq]
theorem merge_ents : ∀ (b a : List Int) (f : Int → Int), (a ++ b).Nodup → mergeK (ents a f) (ents b f) = ents (a ++ b) f
  | [], a, f, _ => by
    rw [List.append_nil]
    rfl
  | k :: b, a, f, nd => by
    have e : a ++ k :: b = (a ++ [k]) ++ b := by rw [List.append_assoc]; rfl
    have nk : k ∉ a := fun m => (List.nodup_append.mp nd).2.2 k m k (List.mem_cons_self ..) rfl
    show mergeK (putK (ents a f) (Sum.inl k) (.int (f k))) (ents b f) = _
    rw [ents_put nk, e]
    exact merge_ents b (a ++ [k]) f (by rw [← e]; exact nd)
theorem pairs_paired {K : PySem.W.Frag} {H : Hp} : ∀ {ts : List Addr} {qs : List (Int × Int)}, Pairs H ts qs → Paired (fun p (kv : Key × V) => SqT K H p [kV kv.1, kv.2]) ts (prs qs)
  | [], [], _ => .nil
  | [], _ :: _, p => by
    have := p.1
    simp at this
  | _ :: _, [], p => by
    have := p.1
    simp at this
  | t :: ts, q :: qs, p => .cons (.inl (.inl (p.2 0 t q rfl rfl))) (pairs_paired ⟨by have := p.1; simpa using this, fun i t' q' a b => p.2 (i + 1) t' q' (by simpa using a) (by simpa using b)⟩)
section
variable {P : Program} {w : World} {K : PySem.W.Frag} {mg : Str → Option Value} {base : Heap}
abbrev sLHeap : Stmt := topS 36
abbrev sLWin : Stmt := topS 37
theorem scLHeap : FnScope ["_law_hand_here", "_law_lengths_here", "_law_length", "_law_chain", "_law_turn", "_law_one"] ["_law_hand_here"] (defScope sLHeap) := ⟨rfl, rfl, rfl, by decide +kernel, rfl, by decide +kernel, by decide +kernel⟩
theorem scLWin : FnScope ["_law_hand_here", "_law_heap_here", "_law_most", "_law_k"] ["_law_hand_here", "_law_heap_here"] (defScope sLWin) := ⟨rfl, rfl, rfl, by decide +kernel, rfl, by decide +kernel, by decide +kernel⟩
def spLHeap : Sp := fun vs H Q _ => ∃ (h c : Addr), vs = [.ref h] ∧ Hand H h c ∧ ∀ H' d ks f, Kept h H H' → Hand H' h c → H d = none → H' d = some (Dk ks f) → Small ks f → Q (.ref d) H'
theorem six {d : Int} (h0 : 0 ≤ d) (h1 : d < 6) : ∃ v : Int, atI [V.int 1, V.int 2, V.int 2, V.int 3, V.int 3, V.int 4] d = some (V.int v) ∧ 1 ≤ v ∧ v ≤ 4 := by
  have : d = 0 ∨ d = 1 ∨ d = 2 ∨ d = 3 ∨ d = 4 ∨ d = 5 := by omega
  rcases this with rfl | rfl | rfl | rfl | rfl | rfl
  · exact ⟨1, rfl, by decide, by decide⟩
  · exact ⟨2, rfl, by decide, by decide⟩
  · exact ⟨2, rfl, by decide, by decide⟩
  · exact ⟨3, rfl, by decide, by decide⟩
  · exact ⟨3, rfl, by decide, by decide⟩
  · exact ⟨4, rfl, by decide, by decide⟩
/-- the lengths so far, and the next one -/
structure Row (i : Nat) (ls : List Int) (x : Int) : Prop where
  len : ls.length = i
  nd : ls.Nodup
  pos : ∀ l ∈ ls, 1 ≤ l
  lt : ∀ l ∈ ls, l < x
  one : 1 ≤ x
  top : x ≤ (3 : Int) ^ (i + 1)
theorem Row.next {i : Nat} {ls : List Int} {x y : Int} (r : Row i ls x) (h1 : x < y) (h2 : y ≤ 3 * x ∨ y ≤ x + 3) : Row (i + 1) (ls ++ [x]) y := by
  refine ⟨by rw [List.length_append, r.len]; rfl, nd_snoc r.nd fun m => by have := r.lt x m; omega, fun l hl => ?_, fun l hl => ?_, by have := r.one; omega, ?_⟩
  · rcases List.mem_append.mp hl with z | z
    · exact r.pos l z
    · rw [List.mem_singleton.mp z]
      exact r.one
  · rcases List.mem_append.mp hl with z | z
    · have := r.lt l z
      omega
    · rw [List.mem_singleton.mp z]
      exact h1
  · have t := r.top
    have o := r.one
    have g : (3 : Int) ≤ 3 ^ (i + 1) := by
      have : (1 : Int) ≤ 3 ^ i := by
        have : (0 : Int) < 3 ^ i := Int.pow_pos (by decide)
        omega
      rw [Int.pow_succ]
      omega
    rw [Int.pow_succ]
    generalize (3 : Int) ^ (i + 1) = B at t g
    omega
theorem pow5 {i : Nat} (h : i ≤ 4) : (3 : Int) ^ (i + 1) ≤ 243 := by
  have : i = 0 ∨ i = 1 ∨ i = 2 ∨ i = 3 ∨ i = 4 := by omega
  rcases this with rfl | rfl | rfl | rfl | rfl <;> decide
theorem Pairs.kept {H H' : Hp} {h c : Addr} {ts : List Addr} {qs : List (Int × Int)} (p : Pairs H ts qs) (x : Hand H h c) (k : Kept h H H') : Pairs H' ts qs := ⟨p.1, fun i t q a b => by
  have z := p.2 i t q a b
  refine k _ _ (fun e => ?_) z
  obtain ⟨_, _, _, _, _, e1, _⟩ := x
  rw [e, e1] at z
  cases z⟩
theorem ok_lheap (N : Free mg) (GD : Has P w K mg base CX0 "_law_draw" 1 ["_law_hand_here", "_law_many"] spDraw) (GS : Has P w K mg base CX0 "_law_shuffled" 2 ["_law_hand_here", "_law_things"] (spShuf K)) {f : Addr} {fd : FuncData} (D : Def K mg "_law_heap" sLHeap ["_law_hand_here"] f fd) :
    Has P w K mg base CX0 "_law_heap" 3 ["_law_hand_here"] spLHeap := by
  refine .of D (D.1.ok scLHeap (fun vs H Q E h => ?_) (fun cdv A outer s H vs Q E hr h => ?_))
  · obtain ⟨h, c, rfl, _⟩ := h
    rfl
  · obtain ⟨h, c, rfl, hh, q⟩ := h
    refine ⟨_, pss_cons (ps_set (i := 1) scLHeap.nd rfl (.inl rfl) (pe_lst pa_nil))
      (pss_cons (ps_set (i := 2) scLHeap.nd rfl (.inl rfl) (pe_op op_add pe_int (pcall GD (hr.mono (by decide)) (pa_cons (pv 0) (pa_cons pe_int pa_nil)))))
      (pss_cons (ps_set (i := 3) scLHeap.nd rfl (.inl rfl) (pe_cmpR op_eq (pcall GD (hr.mono (by decide)) (pa_cons (pv 0) (pa_cons pe_int pa_nil))) pe_int (nomark _)))
      (pss_cons (ps_for PassesOwn.never rfl (pi_range1 rfl N.range (pa_cons (pe_ix ix_list (pe_lst (pa_cons pe_int (pa_cons pe_int (pa_cons pe_int (pa_cons pe_int (pa_cons pe_int (pa_cons pe_int pa_nil))))))) (pcall GD (hr.mono (by decide)) (pa_cons (pv 0) (pa_cons pe_int pa_nil))) (fun _ _ => rfl)) pa_nil))
          (pg_name (i := 4) scLHeap.nd rfl (.inl rfl))
        (pss_cons (ps_expr (pe_bm PySem.F.plainAttrs_list PySem.F.slot_list_append PySem.F.type_list_append mt_append (pv 1) (pa_cons (pv 2) pa_nil)))
        (pss_one (ps_set (i := 2) scLHeap.nd rfl (.inl rfl) (pe_ifExp (pt_val (pv 3)) (pe_op op_mul (pv 2) (pe_op op_add pe_int (pcall GD (hr.mono (by decide)) (pa_cons (pv 0) (pa_cons pe_int pa_nil)))))
          (pe_op op_add (pe_op op_add (pv 2) pe_int) (pcall GD (hr.mono (by decide)) (pa_cons (pv 0) (pa_cons pe_int pa_nil)))))))))
      (pss_one (ps_ret (pe_callTy (call_dictP rfl) (by rfl) N.dict bt_dict (pa_cons (pe_lc (own := [("_law_one", 5)]) (g := gName 5) (tt := tYes) rfl scLHeap.nd (pi_list (pcall GS (hr.mono (by decide)) (pa_cons (pv 0) (pa_cons (pv 1) pa_nil))))
        (blkOk_by (N := ["_law_hand_here", "_law_lengths_here", "_law_length", "_law_chain", "_law_turn", "_law_one"]) (sc := defScope sLHeap) (by decide +kernel)) (fun _ _ _ _ _ => pg_name (i := 5) scLHeap.nd rfl (.inl rfl)) (fun _ _ _ _ _ => pts_nil)
        (fun _ _ _ _ _ => pe_tup (pa_cons (pv 5) (pa_cons (pcall GD (hr.mono (by decide)) (pa_cons (pv 0) (pa_cons pe_int pa_nil))) pa_nil)))) pa_nil))))))), ?_⟩
    refine ⟨Nat.zero_le _, fun r nr => ?_⟩
    have nrh := hh.nf nr
    have nrc := hh.nc nr
    have h1 := hh.up (o := .lst []) nrh nrc
    have k1 := (Kept.refl h H).fresh (o := .lst []) nr
    refine ⟨_, rfl, h, c, 3, rfl, h1, by decide, by decide, fun H2 d2 k2 h2 a0 a1 => ⟨_, _, rfl, rfl, ?_⟩⟩
    have er2 := k2 _ _ nrh (upd_same (H := H) (a := r) (o := .lst []))
    refine ⟨_, rfl, h, c, 2, rfl, h2, by decide, by decide, fun H3 d3 k3 h3 b0 b1 => ⟨rfl, ?_⟩⟩
    have er3 := k3 _ _ nrh er2
    have kp3 := (k1.trans k2).trans k3
    generalize hch : decide (V.int d3 = V.int 0) = ch
    refine ⟨(by decide : 6 ≤ sizeLine), fun L nL => ?_⟩
    have h4 := h3.up (o := .lst [.int 1, .int 2, .int 2, .int 3, .int 3, .int 4]) (h3.nf nL) (h3.nc nL)
    refine ⟨_, rfl, h, c, 6, rfl, h4, by decide, by decide, fun H5 d5 k5 h5 c0 c1 => ?_⟩
    obtain ⟨v, ev, v1, v4⟩ := six c0 c1
    have eL := k5 _ _ (h3.nf nL) (upd_same (H := H3) (a := L) (o := .lst [.int 1, .int 2, .int 2, .int 3, .int 3, .int 4]))
    have kp5 : Kept h H H5 := (kp3.trans (.of (same_new nL))).trans k5
    have er5 := k5 _ _ nrh (same_new nL _ _ er3)
    refine ⟨L, _, d5, .int v, rfl, rfl, .inl (.inl eL), ev, v, rfl, by omega, by omega, ?_⟩
    refine for_range (n := v.toNat) (fun i σ H' => ∃ ls x x4, σ = [some (.ref h), some (.ref r), some (.int x), some (.bl ch), x4, none] ∧ Kept h H H' ∧ Hand H' h c ∧ H' r = some (Ls ls) ∧ Row i ls x)
      ⟨[], 1 + d2, none, rfl, kp5, h5, er5, rfl, List.nodup_nil, fun l hl => (List.not_mem_nil hl).elim, fun l hl => (List.not_mem_nil hl).elim, by omega, by show (1 + d2 : Int) ≤ 3; omega⟩ ?_ ?_
    · rintro i σ H' hi ⟨ls, x, x4, rfl, kp, hd, er, rw_⟩
      refine ⟨_, rfl, .inl ⟨rfl, _, .inl (.inl er)⟩, _, rfl, r, _, _, rfl, rfl, er, ?_, ?_⟩
      · rw [List.length_map, rw_.len]
        exact small1000 (by omega)
      have er' : (upd H' r (.lst (ls.map V.int ++ [.int x]))) r = some (Ls (ls ++ [x])) := by
        rw [upd_same]
        unfold Ls
        rw [List.map_append]
        rfl
      have hd' := hd.up (o := .lst (ls.map V.int ++ [.int x])) nrh nrc
      have kp' := kp.fresh (o := .lst (ls.map V.int ++ [.int x])) nr
      refine ⟨_, rfl, ch, rfl, ?_⟩
      refine ite2 (fun _ => ?_) fun _ => ?_
      · refine ⟨_, rfl, _, rfl, h, c, 2, rfl, hd', by decide, by decide, fun H6 d6 k6 h6 e0 e1 => ⟨_, _, rfl, rfl, _, _, rfl, rfl, .inl ?_, ?_⟩⟩
        · have t := rw_.top
          have : (3 : Int) ^ (i + 1) ≤ 243 := pow5 (by omega)
          have o := rw_.one
          omega
        · refine ⟨ls ++ [x], x * (2 + d6), _, rfl, kp'.trans k6, h6, k6 _ _ nrh er', rw_.next ?_ ?_⟩
          · have o := rw_.one
            have : d6 = 0 ∨ d6 = 1 := by omega
            rcases this with rfl | rfl <;> omega
          · have o := rw_.one
            have : d6 = 0 ∨ d6 = 1 := by omega
            rcases this with rfl | rfl <;> omega
      · refine ⟨_, rfl, _, _, rfl, rfl, _, rfl, h, c, 3, rfl, hd', by decide, by decide, fun H6 d6 k6 h6 e0 e1 => ⟨_, _, rfl, rfl, ?_⟩⟩
        exact ⟨ls ++ [x], x + 1 + d6, _, rfl, kp'.trans k6, h6, k6 _ _ nrh er', rw_.next (by omega) (by omega)⟩
    · rintro σ H' ⟨ls, x, x4, rfl, kp, hd, er, rw_⟩
      have rl := rw_.len
      have rtop := rw_.top
      have r5 : (3 : Int) ^ (v.toNat + 1) ≤ 243 := pow5 (by omega)
      refine ⟨_, rfl, _, rfl, h, c, r, ls, rfl, hd, .inl (.inl er), by omega, fun H6 p ks k6 h6 np ep pm => ?_⟩
      have kl := pm.length_eq
      have kp6 := kp.trans k6
      refine ⟨p, rfl, ⟨_, .inl (.inl ep)⟩, fun M nM => ?_⟩
      have nMh := h6.nf nM
      have nMc := h6.nc nM
      have hn : (ks.map V.int).length = ks.length := List.length_map ..
      refine lc_it (n := (ks.map V.int).length) (walk_list (K := K) (a := p) (xs := ks.map V.int)) (fun j H' => Kept h H6 H' ∧ Hand H' h c ∧ ∃ ts qs, H' M = some (.lst (ts.map V.ref)) ∧ Pairs H' ts qs ∧ qs.map (·.1) = ks.take j ∧ ∀ y ∈ qs, 0 ≤ y.2 ∧ y.2 ≤ 3)
        ⟨(Kept.refl h H6).fresh nM, h6.up nMh nMc, [], [], upd_same, ⟨rfl, fun i t q a => by simp at a⟩, rfl, fun y hy => (List.not_mem_nil hy).elim⟩ (fun j H' _ z => .inl (.inl (z.1 _ _ (hd.nf np) ep))) ?_ ?_
      · rintro j x H7 H8 hj ⟨k7, h7, ts, qs, eM, p7, ek, b7⟩ ⟨rfl, ex⟩
        obtain ⟨k, hk, rfl⟩ := ints_at ex
        refine ⟨rfl, yes (iteT ?_)⟩
        refine ⟨_, rfl, _, rfl, h, c, 4, rfl, h7, by decide, by decide, fun H9 d9 k9 h9 f0 f1 => ⟨(by decide : 2 ≤ sizeLine), fun T nT => ?_⟩⟩
        have eM9 := k9 _ _ nMh eM
        have nMT : M ≠ T := ne_of_none eM9 nT
        have tl := p7.1
        have ql := congrArg List.length ek
        rw [List.length_map, List.length_take] at ql
        refine ⟨_, relock eM9 nMT, ?_, ((k7.trans k9).trans (.of (same_new nT))).fresh nM, (h9.up (h9.nf nT) (h9.nc nT)).up nMh nMc, ts ++ [T], qs ++ [(k, d9)], ?_, ?_, ?_, fun y hy => ?_⟩
        · rw [List.length_map]
          exact small1000 (by omega)
        · rw [upd_same, List.map_append]
          rfl
        · have p9 := p7.kept h7 k9
          refine Pairs.snoc ⟨p9.1, fun i t q a b => ?_⟩ ?_
          · have z := p9.2 i t q a b
            have n1 : t ≠ M := fun e => by
              rw [e, eM9] at z
              cases z
            rw [upd_ne n1]
            exact same_new nT _ _ z
          · rw [upd_ne nMT.symm, upd_same]
            rfl
        · rw [List.map_append, ek, take_at hk]
          rfl
        · rcases List.mem_append.mp hy with z | z
          · exact b7 y z
          · rw [List.mem_singleton.mp z]
            exact ⟨f0, by show d9 ≤ 3; omega⟩
      · rintro H7 ⟨k7, h7, ts, qs, eM, p7, ek, b7⟩
        rw [hn, List.take_length] at ek
        have nd : ks.Nodup := pm.symm.nodup rw_.nd
        refine ⟨M, ts, prs qs, rfl, .inl (.inl eM), pairs_paired p7, fun d nD => ?_⟩
        have em : mergeK [] (prs qs) = ents ks (ofPairs qs) := by
          rw [prs_ents (by rw [ek]; exact nd), ek]
          exact merge_ents ks [] _ nd
        rw [em]
        have kp7 := kp6.trans k7
        have of : ∀ k ∈ ks, 0 ≤ ofPairs qs k ∧ ofPairs qs k ≤ 3 := fun k hk => by
          rw [← ek] at hk
          obtain ⟨y, hy, rfl⟩ := List.mem_map.mp hk
          rw [ofPairs_mem (by rw [ek]; exact nd) hy]
          exact b7 y hy
        refine q _ d ks (ofPairs qs) (kp7.trans (.of (same_new nD))) (h7.up (h7.nf nD) (h7.nc nD)) (kp7.free (h7.nf nD) nD) upd_same ⟨by omega, by omega, nd, fun k hk => rw_.pos k (pm.mem_iff.mp hk), fun k hk => ?_, fun k hk => (of k hk).1, fun k hk => (of k hk).2⟩
        have := rw_.lt k (pm.mem_iff.mp hk)
        omega
/-! ### _law_windows -/
def spLWin : Sp := fun vs H Q _ => ∃ (h c d : Addr) (ks : List Int) (f : Int → Int), vs = [.ref h, .ref d] ∧ Hand H h c ∧ H d = some (Dk ks f) ∧ Small ks f ∧
  ∀ H' t ws, Kept h H H' → Hand H' h c → H t = none → H' t = some (Tp ws) → ws.length ≤ 4 → (∀ w ∈ ws, 0 ≤ w ∧ w ≤ 10000) → Q (.ref t) H'
theorem ok_lwin (N : Free mg) (GD : Has P w K mg base CX0 "_law_draw" 1 ["_law_hand_here", "_law_many"] spDraw) {f : Addr} {fd : FuncData} (D : Def K mg "_law_windows" sLWin ["_law_hand_here", "_law_heap_here"] f fd) :
    Has P w K mg base CX0 "_law_windows" 2 ["_law_hand_here", "_law_heap_here"] spLWin := by
  refine .of D (D.1.ok scLWin (fun vs H Q E h => ?_) (fun cdv A outer s H vs Q E hr h => ?_))
  · obtain ⟨h, c, d, ks, f, rfl, _⟩ := h
    rfl
  · obtain ⟨h, c, d, ks, f, rfl, hh, hd, sm, q⟩ := h
    refine ⟨_, pss_cons (ps_set (i := 2) scLWin.nd rfl (.inr rfl) (pe_callB (cr_max rfl) (by rfl) N.max bt_max (pa_cons (pe_callTy (call_listD rfl) (by rfl) N.list bt_list (pa_cons (pv 1) pa_nil)) pa_nil)))
      (pss_one (ps_ret (pe_callTy call_tuple_of (by rfl) N.tuple bt_tuple (pa_cons (pe_lc (own := [("_law_k", 3)]) (g := gName 3) (tt := tYes) rfl scLWin.nd (pi_range1 rfl N.range (pa_cons (pcall GD hr (pa_cons (pv 0) (pa_cons pe_int pa_nil))) pa_nil))
        (blkOk_by (N := ["_law_hand_here", "_law_heap_here", "_law_most", "_law_k"]) (sc := defScope sLWin) (by decide +kernel)) (fun _ _ _ _ _ => pg_name (i := 3) scLWin.nd rfl (.inl rfl)) (fun _ _ _ _ _ => pts_nil)
        (fun _ _ _ _ _ => pcall GD hr (pa_cons (pv 0) (pa_cons (pe_op op_add (pe_op op_mul pe_int (pv 2)) pe_int) pa_nil)))) pa_nil)))), ?_⟩
    refine ⟨_, rfl, d, ents ks f, rfl, .inl hd, fun L nL => ?_⟩
    have ek : ((ents ks f).map fun kv => kV kv.1) = ks.map V.int := by
      unfold ents
      rw [List.map_map]
      rfl
    rw [ek]
    refine ⟨L, ks, rfl, .inl (.inl upd_same), sm.one, fun m hm _ => ?_⟩
    have m1 := sm.pos m hm
    have m2 := sm.top m hm
    have s1 : Same H (upd H L (.lst (ks.map V.int))) := same_new nL
    refine ⟨_, rfl, h, c, 5, rfl, hh.same s1, by decide, by decide, fun H2 n k2 h2 n0 n1 => ?_⟩
    have kp := (Kept.of (h := h) s1).trans k2
    refine ⟨n, rfl, by omega, by omega, fun M nM => ?_⟩
    have nMh := h2.nf nM
    have nMc := h2.nc nM
    refine lc_it (n := n.toNat) walk_range (fun j H' => Kept h H2 H' ∧ Hand H' h c ∧ ∃ ws, ws.length = j ∧ H' M = some (Ls ws) ∧ ∀ w ∈ ws, 0 ≤ w ∧ w ≤ 10000)
      ⟨(Kept.refl h H2).fresh nM, h2.up nMh nMc, [], rfl, upd_same, fun w hw => (List.not_mem_nil hw).elim⟩ (fun _ _ _ _ => True.intro) ?_ ?_
    · rintro j x H7 H8 hj ⟨k7, h7, ws, wl, eM, wb⟩ ⟨rfl, rfl⟩
      refine ⟨rfl, yes (iteT ?_)⟩
      refine ⟨_, rfl, _, rfl, _, _, rfl, rfl, .inl ⟨by decide, by decide⟩, _, _, rfl, rfl, h, c, 2 * m + 2, rfl, h7, by omega, by omega, fun H9 d9 k9 h9 f0 f1 => ?_⟩
      have eM9 := k9 _ _ nMh eM
      refine ⟨_, eM9, ?_, (k7.trans k9).fresh nM, h9.up nMh nMc, ws ++ [d9], by rw [List.length_append, wl]; rfl, ?_, fun w hw => ?_⟩
      · rw [List.length_map]
        exact small1000 (by omega)
      · rw [upd_same]
        unfold Ls
        rw [List.map_append]
        rfl
      · rcases List.mem_append.mp hw with z | z
        · exact wb w z
        · rw [List.mem_singleton.mp z]
          omega
    · rintro H7 ⟨k7, h7, ws, wl, eM, wb⟩
      have kp7 := kp.trans k7
      exact ⟨M, _, rfl, .inl ⟨.inl (.inl eM), fun t nt => q _ t ws (kp7.trans (.of (same_new nt))) (h7.up (h7.nf nt) (h7.nc nt)) (kp7.free (h7.nf nt) nt) upd_same (by omega) wb⟩⟩
end
end K81
namespace K81
/-! The law's own enumeration of all fillings-in, in plain Lean. -/
/-- one more length: each way so far is gone on with -/
def item (Fl v l : Int) (y : List Int × Int) : List (List Int × Int) := (List.range (min Fl ((v - y.2) / l) + 1).toNat).map fun (m : Nat) => (y.1 ++ [(m : Int)], y.2 + (m : Int) * l)
def grow (Fl v l : Int) (xs : List (List Int × Int)) : List (List Int × Int) := xs.flatMap (item Fl v l)
def somes (F : Int → Int) (v : Int) (ls : List Int) : List (List Int × Int) := ls.foldl (fun xs l => grow (F l) v l xs) [([], 0)]
theorem somes_snoc (F : Int → Int) (v : Int) (ls : List Int) (l : Int) : somes F v (ls ++ [l]) = grow (F l) v l (somes F v ls) := by
  unfold somes
  rw [List.foldl_append]
  rfl
theorem grow_snoc (Fl v l : Int) (xs : List (List Int × Int)) (y : List Int × Int) : grow Fl v l (xs ++ [y]) = grow Fl v l xs ++ item Fl v l y := by
  unfold grow
  rw [List.flatMap_append, List.flatMap_singleton]
/-- a way through the first lengths -/
def Way (F : Int → Int) (v : Int) (ks : List Int) (y : List Int × Int) : Prop := ∃ x : Int → Int, y.1 = ks.map x ∧ y.2 = hsum ks x ∧ (∀ l ∈ ks, 0 ≤ x l ∧ x l ≤ F l) ∧ y.2 ≤ v
theorem way_item {F : Int → Int} {v : Int} {ks : List Int} {l : Int} (hl : l ∉ ks) (h1 : 1 ≤ l) {y z : List Int × Int} (w : Way F v ks y) (hz : z ∈ item (F l) v l y) : Way F v (ks ++ [l]) z := by
  obtain ⟨x, x1, x2, x3, x4⟩ := w
  obtain ⟨m, hm, rfl⟩ := List.mem_map.mp hz
  have hm := List.mem_range.mp hm
  have m0 : (m : Int) ≤ min (F l) ((v - y.2) / l) := by omega
  have m1 : (m : Int) ≤ (v - y.2) / l := by omega
  have m2 : (m : Int) * l ≤ v - y.2 := (Int.le_ediv_iff_mul_le (by omega)).mp m1
  have ne : ∀ k ∈ ks, k ≠ l := fun k hk e => hl (e ▸ hk)
  have cg : ∀ k ∈ ks, (fun k => if k = l then (m : Int) else x k) k = x k := fun k hk => if_neg (ne k hk)
  have sl : (fun k => if k = l then (m : Int) else x k) l = m := if_pos rfl
  refine ⟨fun k => if k = l then m else x k, ?_, ?_, fun k hk => ?_, ?_⟩
  · rw [List.map_append, x1, List.map_congr_left cg]
    show ks.map x ++ [(m : Int)] = ks.map x ++ [(fun k => if k = l then (m : Int) else x k) l]
    rw [sl]
  · rw [hsum_app, hsum_cons, hsum_nil, hsum_congr ks _ x cg, if_pos rfl, Int.mul_comm l]
    show y.2 + (m : Int) * l = _
    omega
  · rcases List.mem_append.mp hk with z | z
    · rw [cg k z]
      exact x3 k z
    · rw [List.mem_singleton.mp z, sl]
      omega
  · show y.2 + (m : Int) * l ≤ v
    omega
theorem way_somes {F : Int → Int} {v : Int} {ls : List Int} (nd : ls.Nodup) (pos : ∀ l ∈ ls, 1 ≤ l) (hv : 0 ≤ v) : ∀ p, p ≤ ls.length → ∀ y ∈ somes F v (ls.take p), Way F v (ls.take p) y
  | 0, _, y, hy => by
    rw [List.take_zero] at hy
    have e : y = ([], 0) := by simpa [somes] using hy
    subst e
    exact ⟨fun _ => 0, rfl, rfl, fun l h => by simp at h, hv⟩
  | p + 1, hp, y, hy => by
    have e : ls[p]? = some ls[p] := List.getElem?_eq_getElem (by omega)
    rw [take_at e, somes_snoc] at hy
    rw [take_at e]
    obtain ⟨z, hz, hy⟩ := List.mem_flatMap.mp hy
    exact way_item (nd_take nd e) (pos _ (List.getElem_mem _)) (way_somes nd pos hv p (by omega) z hz) hy
theorem gr_somes {F g : Int → Int} {v : Int} {ls : List Int} (pos : ∀ l ∈ ls, 1 ≤ l) (hg : ∀ l ∈ ls, 0 ≤ g l ∧ g l ≤ F l) (hv : hsum ls g ≤ v) : ∀ p, p ≤ ls.length → ((ls.take p).map g, hsum (ls.take p) g) ∈ somes F v (ls.take p)
  | 0, _ => by
    rw [List.take_zero]
    exact List.mem_singleton.mpr rfl
  | p + 1, hp => by
    have e : ls[p]? = some ls[p] := List.getElem?_eq_getElem (by omega)
    have hm : ls[p] ∈ ls := List.getElem_mem _
    have h1 := pos _ hm
    have h2 := hg _ hm
    have ih := gr_somes pos hg hv p (by omega)
    have sp : hsum ls g = hsum (ls.take (p + 1)) g + hsum (ls.drop (p + 1)) g := by rw [← hsum_app, List.take_append_drop]
    have dn : 0 ≤ hsum (ls.drop (p + 1)) g := hsum_nonneg _ _ fun l hl => ⟨pos l (List.mem_of_mem_drop hl), (hg l (List.mem_of_mem_drop hl)).1⟩
    rw [take_at e] at sp ⊢
    rw [hsum_app, hsum_cons, hsum_nil] at sp
    rw [somes_snoc]
    refine List.mem_flatMap.mpr ⟨_, ih, List.mem_map.mpr ⟨(g ls[p]).toNat, List.mem_range.mpr ?_, ?_⟩⟩
    · have : g ls[p] ≤ (v - hsum (ls.take p) g) / ls[p] := (Int.le_ediv_iff_mul_le (by omega)).mpr (by rw [Int.mul_comm]; omega)
      show (g ls[p]).toNat < (min (F ls[p]) ((v - hsum (ls.take p) g) / ls[p]) + 1).toNat
      omega
    · have t : ((g ls[p]).toNat : Int) = g ls[p] := by omega
      show ((ls.take p).map g ++ [((g ls[p]).toNat : Int)], hsum (ls.take p) g + ((g ls[p]).toNat : Int) * ls[p]) = _
      rw [t, List.map_append, hsum_app, hsum_cons, hsum_nil, Int.mul_comm ls[p], Int.add_zero]
      rfl
theorem item_len {Fl v l : Int} (h : Fl ≤ 3) (y : List Int × Int) : (item Fl v l y).length ≤ 4 := by
  unfold item
  rw [List.length_map, List.length_range]
  omega
theorem grow_len {Fl v l : Int} (h : Fl ≤ 3) : ∀ xs : List (List Int × Int), (grow Fl v l xs).length ≤ 4 * xs.length
  | [] => Nat.le_refl _
  | y :: xs => by
    have a := grow_len (v := v) (l := l) h xs
    have b := item_len (v := v) (l := l) h y
    unfold grow at *
    rw [List.flatMap_cons, List.length_append, List.length_cons]
    omega
theorem somes_len {F : Int → Int} {v : Int} {ls : List Int} (h : ∀ l ∈ ls, F l ≤ 3) : ∀ p, p ≤ ls.length → (somes F v (ls.take p)).length ≤ 4 ^ p
  | 0, _ => by
    rw [List.take_zero]
    exact Nat.le_refl 1
  | p + 1, hp => by
    have e : ls[p]? = some ls[p] := List.getElem?_eq_getElem (by omega)
    rw [take_at e, somes_snoc, Nat.pow_succ]
    have hm : ls[p] ∈ ls := List.getElem_mem _
    have a := grow_len (v := v) (l := ls[p]) (h _ hm) (somes F v (ls.take p))
    have b := somes_len (v := v) h p (by omega)
    omega
/-- what is left, place by place -/
def subT (n : Nat) (a b : List Int) : List Int := tab n fun k => a.getD k 0 - b.getD k 0
theorem subT_map (ls : List Int) (F x : Int → Int) : subT ls.length (ls.map F) (ls.map x) = ls.map fun l => F l - x l := by
  symm
  refine tab_eq (List.length_map ..) fun i hi => ?_
  have e : ls[i]? = some ls[i] := List.getElem?_eq_getElem hi
  have e1 : (ls.map F).getD i 0 = F ls[i] := getD_of (by rw [List.getElem?_map, e]; rfl)
  have e2 : (ls.map x).getD i 0 = x ls[i] := getD_of (by rw [List.getElem?_map, e]; rfl)
  rw [List.getElem?_map, e, e1, e2]
  rfl
/-! ### how many tuples there can be -/
def box : Nat → List (List Int)
  | 0 => [[]]
  | n + 1 => (box n).flatMap fun L => [0 :: L, 1 :: L, 2 :: L, 3 :: L]
theorem flat4 : ∀ xs : List (List Int), (xs.flatMap fun L => [0 :: L, 1 :: L, 2 :: L, 3 :: L]).length = 4 * xs.length
  | [] => rfl
  | x :: xs => by
    rw [List.flatMap_cons, List.length_append, flat4 xs]
    show 4 + 4 * xs.length = 4 * (xs.length + 1)
    omega
theorem box_len : ∀ n, (box n).length = 4 ^ n
  | 0 => rfl
  | n + 1 => by
    show ((box n).flatMap _).length = _
    rw [flat4, box_len n, Nat.pow_succ, Nat.mul_comm]
theorem box_mem : ∀ (L : List Int), (∀ x ∈ L, 0 ≤ x ∧ x ≤ 3) → L ∈ box L.length
  | [], _ => List.mem_singleton.mpr rfl
  | x :: L, h => by
    have ih := box_mem L fun y hy => h y (List.mem_cons_of_mem _ hy)
    have b := h x (List.mem_cons_self ..)
    refine List.mem_flatMap.mpr ⟨L, ih, ?_⟩
    have : x = 0 ∨ x = 1 ∨ x = 2 ∨ x = 3 := by omega
    rcases this with rfl | rfl | rfl | rfl <;> simp
theorem nodup_len {α : Type} [DecidableEq α] : ∀ {a b : List α}, a.Nodup → (∀ x ∈ a, x ∈ b) → a.length ≤ b.length
  | [], _, _, _ => Nat.zero_le _
  | x :: a, b, nd, h => by
    obtain ⟨n1, n2⟩ := List.nodup_cons.mp nd
    have hx := h x (List.mem_cons_self ..)
    have := nodup_len (a := a) (b := b.erase x) n2 fun y hy => (List.mem_erase_of_ne (fun e => n1 (by rw [← e]; exact hy))).mpr (h y (List.mem_cons_of_mem _ hy))
    rw [List.length_erase_of_mem hx] at this
    have := List.length_pos_of_mem hx
    rw [List.length_cons]
    omega
theorem box_few {kk : List (List Int)} {n : Nat} (hn : n ≤ 4) (nd : kk.Nodup) (h : ∀ L ∈ kk, L.length = n ∧ ∀ x ∈ L, 0 ≤ x ∧ x ≤ 3) : kk.length ≤ 256 := by
  have a := nodup_len nd fun L hL => by
    have z := box_mem L (h L hL).2
    rw [(h L hL).1] at z
    exact z
  rw [box_len] at a
  have : n = 0 ∨ n = 1 ∨ n = 2 ∨ n = 3 ∨ n = 4 := by omega
  rcases this with rfl | rfl | rfl | rfl | rfl <;> omega
/-- one more key -/
def ins (kk : List (List Int)) (k : List Int) : List (List Int) := if k ∈ kk then kk else kk ++ [k]
theorem ins_mem {kk : List (List Int)} {k x : List Int} : x ∈ ins kk k ↔ x ∈ kk ∨ x = k := by
  unfold ins
  by_cases h : k ∈ kk
  · rw [if_pos h]
    exact ⟨.inl, fun z => z.elim id fun e => e ▸ h⟩
  · rw [if_neg h, List.mem_append, List.mem_singleton]
theorem ins_nodup {kk : List (List Int)} {k : List Int} (nd : kk.Nodup) : (ins kk k).Nodup := by
  unfold ins
  by_cases h : k ∈ kk
  · rw [if_pos h]
    exact nd
  · rw [if_neg h, List.nodup_append]
    refine ⟨nd, by simp, fun x hx y hy e => ?_⟩
    rw [List.mem_singleton.mp hy] at e
    exact h (e ▸ hx)
end K81
namespace K81
open PySem PySem.Spec PyProof.Rows L2
/-! ### the level: a dict of the tuples of what may be left -/
def keyT (L : List Int) : List Key := L.map Sum.inl
def lev (kk : List (List Int)) : List (List Key × V) := kk.map fun L => (keyT L, V.bl true)
def Lev (kk : List (List Int)) : HO := .dT (lev kk)
theorem keyT_V (L : List Int) : (keyT L).map kV = L.map V.int := by
  unfold keyT
  rw [List.map_map]
  rfl
theorem keyT_inj {a b : List Int} (h : keyT a = keyT b) : a = b := by
  unfold keyT at h
  exact (List.map_inj_right fun _ _ e => Sum.inl.inj e).mp h
theorem lev_val_yes : ∀ {kk : List (List Int)} {L : List Int}, L ∈ kk → valV (lev kk) (keyT L) = some (.bl true)
  | [], _, h => (List.not_mem_nil h).elim
  | a :: r, L, h => by
    by_cases e : a = L
    · subst e
      exact valV_pos (p := (keyT a, V.bl true)) rfl
    · have h2 : L ∈ r := (List.mem_cons.mp h).resolve_left fun z => e z.symm
      exact (valV_neg (p := (keyT a, V.bl true)) (fun z => e (keyT_inj z))).trans (lev_val_yes h2)
theorem lev_val_no {kk : List (List Int)} {L : List Int} (h : L ∉ kk) : valV (lev kk) (keyT L) = none := by
  cases e : valV (lev kk) (keyT L) with
  | none => rfl
  | some v =>
    have m := valV_in e
    unfold lev at m
    rw [List.map_map] at m
    obtain ⟨x, hx, ex⟩ := List.mem_map.mp m
    exact absurd (keyT_inj ex ▸ hx) h
theorem lev_put (kk : List (List Int)) (L : List Int) : putK (lev kk) (keyT L) (.bl true) = lev (ins kk L) := by
  unfold ins
  by_cases h : L ∈ kk
  · rw [if_pos h]
    have a : ((lev kk).any fun kv => decide (kv.1 = keyT L)) = true := by
      rw [valV_any, lev_val_yes h]
      rfl
    unfold putK
    rw [if_pos a]
    unfold lev
    rw [List.map_map]
    refine List.map_congr_left fun x _ => ?_
    show (if keyT x = keyT L then (keyT x, V.bl true) else (keyT x, V.bl true)) = _
    split <;> rfl
  · rw [if_neg h, putK_new _ (lev_val_no h)]
    unfold lev
    rw [List.map_append]
    rfl
theorem lev_at {kk : List (List Int)} {i : Nat} {k : List Key} {v : V} (h : (lev kk)[i]? = some (k, v)) : ∃ L, kk[i]? = some L ∧ k = keyT L := by
  unfold lev at h
  rw [List.getElem?_map] at h
  cases e : kk[i]? with
  | none =>
    rw [e] at h
    cases h
  | some L =>
    rw [e] at h
    exact ⟨L, rfl, ((Prod.mk.inj (Option.some.inj h)).1).symm⟩
/-- what the level holds -/
structure LevelOk (ls : List Int) (f : Int → Int) (ws : List Int) (kk : List (List Int)) : Prop where
  nd : kk.Nodup
  all : ∀ L ∈ kk, ∃ F, L = ls.map F ∧ Sound ls f ws F
  gr : ls.map (lft ls.reverse f ws) ∈ kk
theorem level_few {ls : List Int} {f : Int → Int} {ws : List Int} {kk : List (List Int)} (hn : ls.length ≤ 4) (hf : ∀ l ∈ ls, f l ≤ 3) (nd : kk.Nodup) (all : ∀ L ∈ kk, ∃ F, L = ls.map F ∧ Sound ls f ws F) : kk.length ≤ 256 :=
  box_few hn nd fun L hL => by
    obtain ⟨F, rfl, S⟩ := all L hL
    refine ⟨List.length_map .., fun x hx => ?_⟩
    obtain ⟨l, hl, rfl⟩ := List.mem_map.mp hx
    have := S.lo l hl
    have := S.hi l hl
    have := hf l hl
    omega
/-- the tuples at ts tell the ways xs -/
def Somes (H : Hp) (ts : List Addr) (xs : List (List Int × Int)) : Prop := ts.length = xs.length ∧ ∀ (i : Nat) t y, ts[i]? = some t → xs[i]? = some y → ∃ b, H t = some (.tup [.ref b, .int y.2]) ∧ H b = some (Tp y.1)
theorem Somes.same {H H' : Hp} {ts : List Addr} {xs : List (List Int × Int)} (p : Somes H ts xs) (s : Same H H') : Somes H' ts xs := ⟨p.1, fun i t y a b => let ⟨c, e1, e2⟩ := p.2 i t y a b; ⟨c, s _ _ e1, s _ _ e2⟩⟩
theorem Somes.but {H H' : Hp} {e : Addr} {ts : List Addr} {xs : List (List Int × Int)} (p : Somes H ts xs) (ne : ∀ ys, H e ≠ some (.tup ys)) (s : Kept e H H') : Somes H' ts xs := ⟨p.1, fun i t y a b => by
  obtain ⟨c, e1, e2⟩ := p.2 i t y a b
  exact ⟨c, s _ _ (fun z => ne _ (by rw [← z]; exact e1)) e1, s _ _ (fun z => ne _ (by rw [← z]; exact e2)) e2⟩⟩
theorem Somes.app {H : Hp} {ts us : List Addr} {xs ys : List (List Int × Int)} (p : Somes H ts xs) (q : Somes H us ys) : Somes H (ts ++ us) (xs ++ ys) := by
  refine ⟨by rw [List.length_append, List.length_append, p.1, q.1], fun i t y a b => ?_⟩
  by_cases c : i < ts.length
  · rw [List.getElem?_append_left c] at a
    rw [List.getElem?_append_left (by rw [← p.1]; exact c)] at b
    exact p.2 i t y a b
  · rw [List.getElem?_append_right (by omega)] at a
    rw [List.getElem?_append_right (by rw [← p.1]; omega), ← p.1] at b
    exact q.2 _ t y a b
theorem Somes.one {H : Hp} {t b : Addr} {y : List Int × Int} (h1 : H t = some (.tup [.ref b, .int y.2])) (h2 : H b = some (Tp y.1)) : Somes H [t] [y] := ⟨rfl, fun i t' y' a c => by
  cases i with
  | succ i => simp at a
  | zero =>
    have e1 : t = t' := by simpa using a
    have e2 : y = y' := by simpa using c
    subst e1 e2
    exact ⟨b, h1, h2⟩⟩
theorem kept_same {B H H' : Hp} {e : Addr} (n : B e = none) (s : Same B H) (k : Kept e H H') : Same B H' := fun b o z => k b o (ne_of_none z n) (s b o z)
/-- hours of what is left -/
def dotT (ls L : List Int) : Int := (tab ls.length fun k => L.getD k 0 * ls.getD k 0).sum
theorem hsum_tab : ∀ (ls : List Int) (F : Int → Int), (tab ls.length fun k => (ls.map F).getD k 0 * ls.getD k 0).sum = hsum ls F := fun ls F => by
  have e : (tab ls.length fun k => (ls.map F).getD k 0 * ls.getD k 0) = ls.map fun l => l * F l := by
    symm
    refine tab_eq (List.length_map ..) fun i hi => ?_
    have e : ls[i]? = some ls[i] := List.getElem?_eq_getElem hi
    rw [List.getElem?_map, e, show ls.getD i 0 = ls[i] from getD_of e, show (ls.map F).getD i 0 = F ls[i] from getD_of (by rw [List.getElem?_map, e]; rfl), Int.mul_comm]
    rfl
  rw [e]
  rfl
/-- behind j of the tuples of the level -/
structure Half (ls : List Int) (f : Int → Int) (ws : List Int) (v : Int) (kk : List (List Int)) (j : Nat) (kk2 : List (List Int)) : Prop where
  nd : kk2.Nodup
  all : ∀ L ∈ kk2, ∃ F, L = ls.map F ∧ Sound ls f (ws ++ [v]) F
  gr : ∀ j', j' < j → kk[j']? = some (ls.map (lft ls.reverse f ws)) → ls.map (lft ls.reverse f (ws ++ [v])) ∈ kk2
/-- t + (m,) -/
theorem cat_one {K : PySem.W.Frag} {H : Hp} {a b : Addr} {tk : List Int} {m : Int} {Q : VK} (ha : H a = some (Tp tk)) (hb : H b = some (Tp [m])) (few : tk.length ≤ 1000) (q : ∀ (H' : Hp) (p : Addr), Same H H' → H' p = some (Tp (tk ++ [m])) → Q (.ref p) H') : rCatA K (.ref a) (.ref b) H Q := by
  refine ⟨a, b, tk.map V.int, [.int m], rfl, rfl, .inl (.inl ha), .inl (.inl hb), ?_, fun e => ?_, fun _ z => absurd z (by simp), fun _ _ p np => q _ p (same_new np) ?_⟩
  · rw [List.length_map]
    exact line1000' few
  · have e : tk = [] := List.map_eq_nil_iff.mp e
    subst e
    exact q H b (.refl _) hb
  · rw [upd_same]
    unfold Tp
    rw [List.map_append]
    rfl
where line1000' {n : Nat} (h : n ≤ 1000) : n + 1 ≤ sizeLine := small1000 h
section
variable {P : Program} {w : World} {K : PySem.W.Frag} {mg : Str → Option Value} {base : Heap}
abbrev sEach : Stmt := topS 38
abbrev nE : List Str := ["_law_heap_here", "_law_windows_here", "_law_lengths_here", "_law_level", "_law_total", "_law_found", "_law_window", "_law_later", "_law_left", "_law_some", "_law_place", "_law_length", "_law_longer", "_law_taken", "_law_hours", "_law_most", "_law_many", "_law_k", "_law_rest"]
theorem scEach : FnScope nE ["_law_heap_here", "_law_windows_here"] (defScope sEach) := ⟨rfl, rfl, rfl, by decide +kernel, rfl, by decide +kernel, by decide +kernel⟩
def scRest : Scope := { kind := .function, names := [(Str.ofString ".0", .local), (Str.ofString "_law_left", .cell), (Str.ofString "sum", .globalImplicit), (Str.ofString "range", .globalImplicit), (Str.ofString "len", .globalImplicit), (Str.ofString "_law_lengths_here", .free)], isGenerator := false, isCoroutine := false, more := [] }
def spEach : Sp := fun vs H Q _ => ∃ d ks f t ws ls, vs = [.ref d, .ref t] ∧ H d = some (Dk ks f) ∧ Small ks f ∧ H t = some (Tp ws) ∧ WinOk ws ∧ Srt ls ks ∧ Goes ls ∧ ∀ H' p, Same H H' → H p = none → H' p = some (Ls (dones ls f ws)) → Q (.ref p) H'
theorem ok_each (N : Free mg) {f : Addr} {fd : FuncData} (D : Def K mg "_law_each" sEach ["_law_heap_here", "_law_windows_here"] f fd) : Has P w K mg base CX0 "_law_each" 1 ["_law_heap_here", "_law_windows_here"] spEach := by
  refine .of D (D.1.ok scEach (fun vs H Q E h => ?_) (fun cdv A outer s H vs Q E hr h => ?_))
  · obtain ⟨d, ks, f, t, ws, ls, rfl, _⟩ := h
    rfl
  · obtain ⟨d, ks, f, t, ws, ls, rfl, hd, sm, ht, wo, sr, G, q⟩ := h
    have nd := scEach.nd
    refine ⟨_, pss_cons (ps_set (i := 2) nd rfl (.inr rfl) (pe_callB (call_sortedDI rfl) (by rfl) N.sorted bt_sorted (pa_cons (pv 0) pa_nil)))
      (pss_cons (ps_set (i := 3) nd rfl (.inl rfl) (pe_dispT (hu_of hr) (pe_callTy call_tuple_of (by rfl) N.tuple bt_tuple (pa_cons (pe_lc (own := [("_law_length", 11)]) (g := gName 11) (tt := tYes) rfl nd (pi_list (pv 2)) (blkOk_by (N := nE) (sc := defScope sEach) (by decide +kernel))
        (fun _ _ _ _ _ => (pg_name (i := 11) nd rfl (.inl rfl))) (fun _ _ _ _ _ => pts_nil) (fun _ _ _ _ _ => (pe_dget (hu_of hr) (pv 0) (pv 11) (fun _ _ => rfl)))) pa_nil)) pe_bl))
      (pss_cons (ps_set (i := 4) nd rfl (.inl rfl) (pe_callB (cr_sum rfl) (by rfl) N.sum bt_sum (pa_cons (pe_lock (pe_lc (own := [("_law_length", 11)]) (g := gName 11) (tt := tYes) rfl nd (pi_keys (pv 0)) (blkOk_by (N := nE) (sc := defScope sEach) (by decide +kernel))
        (fun _ _ _ _ _ => (pg_name (i := 11) nd rfl (.inl rfl))) (fun _ _ _ _ _ => pts_nil) (fun _ _ _ _ _ => (pe_op op_mul (pv 11) (pe_dget (hu_of hr) (pv 0) (pv 11) (fun _ _ => rfl)))))) pa_nil)))
      (pss_cons (ps_set (i := 5) nd rfl (.inl rfl) (pe_lst pa_nil))
      (pss_cons (ps_for PassesOwn.never rfl (pi_tup (pv 1)) (pg_name (i := 6) nd rfl (.inl rfl))
      (pss_cons (ps_set (i := 7) nd rfl (.inl rfl) pe_dnewT)
      (pss_cons (ps_lock (ps_for PassesOwn.never rfl (pi_keys (pv 3)) (pg_name (i := 8) nd rfl (.inr rfl))
      (pss_cons (ps_set (i := 9) nd rfl (.inl rfl) (pe_lst (pa_cons (pe_tup (pa_cons (pe_tup pa_nil) (pa_cons pe_int pa_nil))) pa_nil)))
      (pss_cons (ps_for PassesOwn.never rfl (pi_enum (by rfl) N.enumerate (pa_cons (pv 2) pa_nil)) (pg_tup rfl (pgs_cons (pg_name (i := 10) nd rfl (.inl rfl)) (pgs_cons (pg_name (i := 11) nd rfl (.inr rfl)) pgs_nil)))
      (pss_cons (ps_set (i := 12) nd rfl (.inl rfl) (pe_lst pa_nil))
      (pss_cons (ps_for PassesOwn.never rfl (pi_list (pv 9)) (pg_tup rfl (pgs_cons (pg_name (i := 13) nd rfl (.inr rfl)) (pgs_cons (pg_name (i := 14) nd rfl (.inr rfl)) pgs_nil)))
      (pss_cons (ps_set (i := 15) nd rfl (.inl rfl) (pe_callB (call_min2 rfl) (by rfl) N.min bt_min (pa_cons (pe_ix ix_tup (pv 8) (pv 10) (fun _ _ => rfl)) (pa_cons (pe_op op_fdivN (pe_callTy call_int1 (by rfl) N.int bt_int (pa_cons (pe_op op_sub (pv 6) (pv 14)) pa_nil)) (pv 11)) pa_nil))))
      (pss_one (ps_expr (pe_bm PySem.F.plainAttrs_list PySem.F.slot_list_extend PySem.F.type_list_extend mt_extend (pv 12) (pa_cons (pe_lc (own := [("_law_many", 16)]) (g := gName 16) (tt := tYes) rfl nd (pi_range1 (by rfl) N.range (pa_cons (pe_op op_add (pv 15) pe_int) pa_nil)) (blkOk_by (N := nE) (sc := defScope sEach) (by decide +kernel))
        (fun _ _ _ _ _ => (pg_name (i := 16) nd rfl (.inl rfl))) (fun _ _ _ _ _ => pts_nil) (fun _ _ _ _ _ => pe_tup (pa_cons (pe_op (catK K rfl) (pv 13) (pe_tup (pa_cons (pv 16) pa_nil))) (pa_cons (pe_op op_add (pv 14) (pe_op op_mul (pv 16) (pv 11))) pa_nil)))) pa_nil))))))
      (pss_one (ps_set (i := 9) nd rfl (.inl rfl) (pv 12))))))
      (pss_one (ps_for PassesOwn.never rfl (pi_list (pv 9)) (pg_tup rfl (pgs_cons (pg_name (i := 13) nd rfl (.inr rfl)) (pgs_cons (pg_name (i := 14) nd rfl (.inr rfl)) pgs_nil)))
      (pss_one (ps_dput (hu_of hr) (pv 7) (pe_callTy call_tuple_of (by rfl) N.tuple bt_tuple (pa_cons (pe_lc (own := [("_law_k", 17)]) (g := gName 17) (tt := tYes) rfl nd (pi_range1 (by rfl) N.range (pa_cons (pe_callB call_len_seq (by rfl) N.len bt_len (pa_cons (pv 2) pa_nil)) pa_nil)) (blkOk_by (N := nE) (sc := defScope sEach) (by decide +kernel))
        (fun _ _ _ _ _ => (pg_name (i := 17) nd rfl (.inl rfl))) (fun _ _ _ _ _ => pts_nil) (fun _ _ _ _ _ => (pe_op op_sub (pe_ix (ix_tupK K rfl) (pv 8) (pv 17) (fun _ _ => rfl)) (pe_ix (ix_tupK K rfl) (pv 13) (pv 17) (fun _ _ => rfl))))) pa_nil)) pe_bl rfl))))))))
      (pss_cons (ps_set (i := 3) nd rfl (.inl rfl) (pv 7))
      (pss_cons (ps_lock (ps_setLc (i := 18) (own := [("_law_left", 8)]) (g := gName 8) (tt := tYes) rfl nd rfl rfl (sw_true rfl rfl rfl (by decide +kernel)) (pi_keys (pv 3)) (blkOk_by (N := nE) (sc := defScope sEach) (by decide +kernel))
        (fun _ _ _ _ _ => (pg_name (i := 8) nd rfl (.inr rfl))) (fun _ _ _ _ _ => pts_nil) (fun _ _ _ _ _ => (pe_callB (sumK K rfl rfl) (by rfl) N.sum bt_sum (pa_cons (pe_lc (own := [("_law_k", 17)]) (g := gName 17) (tt := tYes) rfl nd (pi_range1 (by rfl) N.range (pa_cons (pe_callB (lenK K rfl) (by rfl) N.len bt_len (pa_cons (pv 2) pa_nil)) pa_nil)) (blkOk_by (N := nE) (sc := relS scRest (defScope sEach)) (by decide +kernel))
        (fun _ _ _ _ _ => (pg_name (i := 17) nd rfl (.inl rfl))) (fun _ _ _ _ _ => pts_nil) (fun _ _ _ _ _ => (pe_op op_mul (pe_ix (ix_tupK K rfl) (pv 8) (pv 17) (fun _ _ => rfl)) (pe_ix (ix_listK K rfl) (pv 2) (pv 17) (fun _ _ => rfl))))) pa_nil)))))
      (pss_one (ps_expr (pe_bm PySem.F.plainAttrs_list PySem.F.slot_list_append PySem.F.type_list_append mt_append (pv 5) (pa_cons (pe_op op_sub (pv 4) (pe_callB (cr_min rfl) (by rfl) N.min bt_min (pa_cons (pv 18) pa_nil))) pa_nil)))))))))
      (pss_one (ps_ret (pv 5))))))), ?_⟩
    have few := sm.few
    have ok := sm.ok
    have LN := ok.lens sr
    have wf := wo.few
    have lk := sr.len
    have bk : ∀ k ∈ ks, 1 ≤ k ∧ k ≤ 1000000 := fun k hk => ⟨ok.pos k hk, ok.top k hk⟩
    -- the lengths
    refine ⟨_, rfl, d, _, ks, rfl, .inl hd, ents_keys ks f, by omega, fun ns a2 pm up n2 => ?_⟩
    obtain rfl : ls = ns := (up_uniq (pm.trans sr.perm.symm) up (sr.up.imp fun z => by omega)).symm
    have sA : Same H (upd H a2 (.lst (ls.map V.int))) := same_new n2
    have eA : (upd H a2 (.lst (ls.map V.int))) a2 = some (Ls ls) := upd_same
    generalize upd H a2 (.lst (ls.map V.int)) = HA at sA eA
    -- the first level
    refine fun dl nl => ?_
    have eA1 : (upd HA dl (.dT [])) a2 = some (Ls ls) := same_new nl _ _ eA
    refine ⟨_, rfl, a2, rfl, ⟨_, .inl (.inl eA1)⟩, fun M nM => ?_⟩
    refine lc_m (walk_list (K := K) (a := a2) (xs := ls.map V.int)) ((ls.map f).map V.int) (by rw [List.length_map, List.length_map, List.length_map]) (by rw [List.length_map, List.length_map]; omega) nM (fun H' s => .inl (.inl (s _ _ eA1))) (fun j x H1 H2 hj pp y => ?_) fun H1 s1 eM => ?_
    · obtain ⟨rfl, ex⟩ := y
      obtain ⟨l, hl, rfl⟩ := ints_at ex
      have hm := sr.mem.mp (List.mem_of_getElem? hl)
      refine ⟨rfl, yes (iteT ⟨_, rfl, _, rfl, d, .int (f l), rfl, Dk_get (.inl (pp.same _ _ (same_new nl _ _ (sA _ _ hd)))) hm, pp.fin (.refl _) (at_ints ?_)⟩)⟩
      rw [List.getElem?_map, hl]
      rfl
    refine ⟨M, _, rfl, .inl ⟨.inl (.inl eM), fun bt nb => ?_⟩⟩
    have ed1 := s1 _ _ (upd_same (H := HA) (a := dl) (o := .dT []))
    have ndb := ne_of_none ed1 nb
    refine ⟨relock ed1 ndb, bt, keyT (ls.map f), rfl, ?_, ?_⟩
    · rw [upd_same, keyT_V]
    have sB : Same HA (upd (upd H1 bt (.tup ((ls.map f).map V.int))) dl (.dT [(keyT (ls.map f), V.bl true)])) := fun b o e => by
      have n1 := ne_of_none e nl
      rw [upd_ne n1]
      exact same_new nb _ _ (s1 _ _ (same_new nl _ _ e))
    have eD : (upd (upd H1 bt (.tup ((ls.map f).map V.int))) dl (.dT [(keyT (ls.map f), V.bl true)])) dl = some (Lev [ls.map f]) := upd_same
    generalize upd (upd H1 bt (.tup ((ls.map f).map V.int))) dl (.dT [(keyT (ls.map f), V.bl true)]) = HB at sB eD
    have sAB := sA.trans sB
    -- the total
    dsimp only [gName, tSeq, tAsg, tCB, tCons]
    refine keys_m (ks.map fun k => V.int (k * f k)) rfl (sAB _ _ hd) (List.length_map ..) (by omega) (fun od M j k H' hk ne p => ?_) fun HC M2 sC nM2 eM2 => ⟨M2, ks.map fun k => k * f k, rfl, .inl (.inl ?_), ?_⟩
    · have hm : k ∈ ks := List.mem_of_getElem? hk
      refine ⟨rfl, yes (iteT ?_)⟩
      refine ⟨_, rfl, _, rfl, _, rfl, d, .int (f k), rfl, Dk_get (same_rd p.same (.inr ⟨od, upd_same⟩)) hm, _, _, rfl, rfl, .inl (big (bk k hm)), p.fin (.refl _) ?_⟩
      rw [List.getElem?_map, hk]
      rfl
    · rw [List.map_map]
      exact eM2
    have tot : (ks.map fun k => k * f k).sum = hsum ls f := (hsum_perm sr.perm f).symm
    generalize hT : (ks.map fun k => k * f k).sum = total at tot
    have s3 := sAB.trans sC
    have eA3 := sC _ _ (sB _ _ eA)
    have eD3 := sC _ _ eD
    clear eM2 nM2
    -- found = []
    refine ⟨Nat.zero_le _, fun r nr => ?_⟩
    have nr0 := s3.free nr
    have s4 := s3.trans (same_new (o := .lst []) nr)
    refine ⟨_, rfl, t, rfl, ⟨_, .inl (.inl (s4 _ _ ht))⟩, for_tup (K := K) (a := t) (xs := ws.map V.int) (fun i σ H' => ∃ dl kk x6 x7 x8 x9 x10 x11 x12 x13 x14 x15 x18,
        σ = [some (.ref d), some (.ref t), some (.ref a2), some (.ref dl), some (.int total), some (.ref r), x6, x7, x8, x9, x10, x11, x12, x13, x14, x15, none, none, x18] ∧
        Same HC H' ∧ H' r = some (Ls ((dones ls f ws).take i)) ∧ H' dl = some (Lev kk) ∧ LevelOk ls f (ws.take i) kk)
      ⟨dl, [ls.map f], none, none, none, none, none, none, none, none, none, none, none, rfl, same_new nr, upd_same, same_new nr _ _ eD3, ?_⟩ (fun i σ H' _ ⟨_, _, _, _, _, _, _, _, _, _, _, _, _, _, sm', _⟩ => same_sqt (s3.trans sm') (.inl (.inl ht))) ?_ ?_⟩
    · exact ⟨by simp, fun L hL => ⟨f, List.mem_singleton.mp hL, Sound.nil LN⟩, List.mem_singleton.mpr rfl⟩
    · rintro i x σ H' hx ⟨dl, kk, x6, x7, x8, x9, x10, x11, x12, x13, x14, x15, x18, rfl, sH, er, el, lo⟩
      obtain ⟨v, hv, rfl⟩ := ints_at hx
      have hi : i < ws.length := (List.getElem?_eq_some_iff.mp hv).1
      have vm := List.mem_of_getElem? hv
      have v0 := wo.non v vm
      have wpre : ∀ w ∈ ws.take i, 0 ≤ w := fun w hw => wo.non w (List.mem_of_mem_take hw)
      have tk : ws.take (i + 1) = ws.take i ++ [v] := take_at hv
      have f3 : ∀ l ∈ ls, f l ≤ 3 := fun l hl => sm.lot l (sr.mem.mp hl)
      have lpos : ∀ l ∈ ls, 1 ≤ l ∧ l ≤ 1000000 := fun l hl => bk l (sr.mem.mp hl)
      have s5 := s3.trans sH
      have eA5 := sH _ _ eA3
      have kfew : kk.length ≤ 256 := level_few (by omega) f3 lo.nd lo.all
      -- later = {}
      refine fun e ne => ?_
      have nde := ne_of_none el ne
      have her := ne_of_none er ne
      refine ⟨dl, Lev kk, relock el nde, True.intro, fun od => ?_⟩
      have eB : upd H' dl (.frz od (Lev kk)) e = none := by
        rw [upd_ne nde.symm]
        exact ne
      have sB6 : Same (upd H' dl (.frz od (Lev kk))) (upd (upd H' e (.dT [])) dl (.frz od (Lev kk))) := fun b o z => by
        by_cases c : b = dl
        · subst c
          rw [upd_same] at z ⊢
          exact z
        · rw [upd_ne c] at z ⊢
          exact same_new ne _ _ z
      have ee6 : (upd (upd H' e (.dT [])) dl (.frz od (Lev kk))) e = some (Lev []) := by
        rw [upd_ne nde.symm, upd_same]
        rfl
      refine ⟨.ref dl, rfl, dl, od, rfl, .inr ⟨lev kk, upd_same, ?_⟩⟩
      have ilk := fun H2 (z : Same (upd H' dl (.frz od (Lev kk))) H2) => (⟨z _ _ upd_same, unlock el z⟩ : H2 dl = some (.frz od (Lev kk)) ∧ Same H' (upd H2 dl (Lev kk)))
      have eAB : upd H' dl (.frz od (Lev kk)) a2 = some (Ls ls) := relock eA5 (fun z => by rw [z, el] at eA5; cases eA5)
      generalize hB : upd H' dl (.frz od (Lev kk)) = B at eB sB6 ilk eAB
      generalize upd (upd H' e (.dT [])) dl (.frz od (Lev kk)) = H6 at sB6 ee6
      have lvl : (lev kk).length = kk.length := List.length_map ..
      refine for_it (n := (lev kk).length) walk_keysT (fun j σ H2 => ∃ kk2 x8 x9 x10 x11 x12 x13 x14 x15,
          σ = [some (.ref d), some (.ref t), some (.ref a2), some (.ref dl), some (.int total), some (.ref r), some (.int v), some (.ref e), x8, x9, x10, x11, x12, x13, x14, x15, none, none, x18] ∧
          Same B H2 ∧ H2 e = some (Lev kk2) ∧ Half ls f (ws.take i) v kk j kk2)
        ⟨[], x8, x9, x10, x11, x12, x13, x14, x15, rfl, sB6, ee6, List.nodup_nil, fun L hL => (List.not_mem_nil hL).elim, fun j' h => absurd h (by omega)⟩ (fun j σ H2 _ ⟨_, _, _, _, _, _, _, _, _, _, z, _⟩ => (ilk _ z).1) ?_ ?_
      · rintro j x σ H2 H2' hj ⟨kk2, x8, x9, x10, x11, x12, x13, x14, x15, rfl, sB2, ee2, half⟩ ⟨rfl, k, vv, qa, ek, rfl, eq⟩
        obtain ⟨L, hL, rfl⟩ := lev_at ek
        rw [keyT_V] at eq
        have hL' := List.mem_of_getElem? hL
        obtain ⟨F, eL, S, FG⟩ : ∃ F, L = ls.map F ∧ Sound ls f (ws.take i) F ∧ (L = ls.map (lft ls.reverse f (ws.take i)) → F = lft ls.reverse f (ws.take i)) := by
          by_cases c : L = ls.map (lft ls.reverse f (ws.take i))
          · exact ⟨_, c, lft_sound LN G _ wpre, fun _ => rfl⟩
          · obtain ⟨F, a, b⟩ := lo.all L hL'
            exact ⟨F, a, b, fun z => absurd z c⟩
        subst eL
        have F3 : ∀ l ∈ ls, F l ≤ 3 := fun l hl => by
          have := S.hi l hl
          have := f3 l hl
          omega
        have nls := LN.nd
        have l4 : ls.length ≤ 4 := by omega
        have eA2 := sB2 _ _ eAB
        have lp1 : ∀ l ∈ ls, 1 ≤ l := fun l hl => (lpos l hl).1
        -- some = [((), 0)]
        refine ⟨Nat.zero_le _, fun T0 n0 => ⟨(by decide : 2 ≤ sizeLine), fun T1 n1 => ⟨(by decide : 1 ≤ sizeLine), fun so nso => ?_⟩⟩⟩
        have sS := ((same_new (o := .tup []) n0).trans (same_new (o := .tup [.ref T0, .int 0]) n1)).trans (same_new (o := .lst [.ref T1]) nso)
        have eT1 : (upd (upd (upd H2' T0 (.tup [])) T1 (.tup [.ref T0, .int 0])) so (.lst [.ref T1])) T1 = some (.tup [.ref T0, .int 0]) := same_new nso _ _ upd_same
        have eT0 : (upd (upd (upd H2' T0 (.tup [])) T1 (.tup [.ref T0, .int 0])) so (.lst [.ref T1])) T0 = some (Tp []) := same_new nso _ _ (same_new n1 _ _ upd_same)
        have eso : (upd (upd (upd H2' T0 (.tup [])) T1 (.tup [.ref T0, .int 0])) so (.lst [.ref T1])) so = some (.lst ([T1].map V.ref)) := upd_same
        generalize upd (upd (upd H2' T0 (.tup [])) T1 (.tup [.ref T0, .int 0])) so (.lst [.ref T1]) = HS at sS eT1 eT0 eso
        -- place by place
        refine ⟨_, rfl, a2, _, rfl, .inl (.inl (sS _ _ eA2)), for_it (n := (ls.map V.int).length) (walk_enum (K := K) (a := a2)) (fun p σ H3 => ∃ so ts x10 x11 x12 x13 x14 x15,
            σ = [some (.ref d), some (.ref t), some (.ref a2), some (.ref dl), some (.int total), some (.ref r), some (.int v), some (.ref e), some (.ref qa), some (.ref so), x10, x11, x12, x13, x14, x15, none, none, x18] ∧ Same H2' H3 ∧ H3 so = some (.lst (ts.map V.ref)) ∧ Somes H3 ts (somes F v (ls.take p)))
          ⟨so, [T1], x10, x11, x12, x13, x14, x15, rfl, sS, eso, Somes.one (y := ([], 0)) eT1 eT0⟩ (fun p σ H3 _ ⟨_, _, _, _, _, _, _, _, _, z, _⟩ => .inl (.inl (z _ _ eA2))) ?_ ?_⟩
        · rintro p x σ H3 H3' hp ⟨so, ts, x10, x11, x12, x13, x14, x15, rfl, sP, eso, sms⟩ ⟨T, xx, yy, rfl, nT, rfl, e1, e2⟩
          obtain rfl : V.int (p : Nat) = xx := Option.some.inj e1
          obtain ⟨l, hl, rfl⟩ := ints_at e2
          rw [List.length_map] at hp
          have lm := List.mem_of_getElem? hl
          have lb := lpos l lm
          refine ⟨T, [.int (p : Nat), .int l], rfl, .inl (.inl upd_same), rfl, _, _, rfl, _, _, rfl, rfl, ?_⟩
          have sT : Same H3 (upd H3 T (.tup [.int (p : Nat), .int l])) := same_new nT
          generalize upd H3 T (.tup [.int (p : Nat), .int l]) = Hc at sT
          refine ⟨Nat.zero_le _, fun lg nlg => ?_⟩
          have eso' := sT _ _ eso
          have sms' := sms.same sT
          have eqc := sT _ _ (sP _ _ eq)
          have sLg : Same Hc (upd Hc lg (.lst [])) := same_new nlg
          have cnt : (somes F v (ls.take p)).length ≤ 64 := by
            have a := somes_len (v := v) F3 p (by omega)
            have : p = 0 ∨ p = 1 ∨ p = 2 ∨ p = 3 := by omega
            rcases this with rfl | rfl | rfl | rfl <;> omega
          have tlen := sms.1
          refine ⟨_, rfl, so, rfl, ⟨_, .inl (.inl (sLg _ _ eso'))⟩, for_list (K := K) (a := so) (xs := ts.map V.ref) (fun m σ H4 => ∃ ts4 x13 x14 x15,
              σ = [some (.ref d), some (.ref t), some (.ref a2), some (.ref dl), some (.int total), some (.ref r), some (.int v), some (.ref e), some (.ref qa), some (.ref so), some (.int (p : Nat)), some (.int l), some (.ref lg), x13, x14, x15, none, none, x18] ∧ Same Hc H4 ∧ H4 lg = some (.lst (ts4.map V.ref)) ∧ Somes H4 ts4 (grow (F l) v l ((somes F v (ls.take p)).take m)))
            ⟨[], x13, x14, x15, rfl, sLg, upd_same, rfl, fun i t y a => by simp at a⟩ (fun m σ H4 _ ⟨_, _, _, _, _, z, _⟩ => .inl (.inl (z _ _ eso'))) ?_ ?_⟩
          · rintro m x σ H4 hx ⟨ts4, x13, x14, x15, rfl, s4', elg, sm4⟩
            obtain ⟨t4, ht4, rfl⟩ := refs_at hx
            have hm4 : m < (somes F v (ls.take p)).length := by
              have := (List.getElem?_eq_some_iff.mp ht4).1
              omega
            obtain ⟨y, hy⟩ : ∃ y, (somes F v (ls.take p))[m]? = some y := ⟨_, List.getElem?_eq_getElem hm4⟩
            obtain ⟨b, et, eb⟩ := (sms'.same s4').2 m t4 y ht4 hy
            obtain ⟨xw, w1, w2, w3, w4⟩ := way_somes nls lp1 v0 p (by omega) y (List.mem_of_getElem? hy)
            have yl : y.1.length ≤ 4 := by
              rw [w1, List.length_map, List.length_take]
              omega
            have Fl3 := F3 l lm
            have Fl0 := S.lo l lm
            have dv0 : 0 ≤ (v - y.2) / l := Int.ediv_nonneg (by omega) (by omega)
            refine ⟨t4, [.ref b, .int y.2], rfl, .inl (.inl et), rfl, _, _, rfl, _, _, rfl, rfl, ?_⟩
            refine ⟨_, rfl, _, rfl, qa, _, (p : Int), .int (F l), rfl, rfl, .inl (.inl (s4' _ _ eqc)), atI_nat (at_ints (by rw [List.getElem?_map, hl]; rfl)), _, rfl, _, rfl, _, _, rfl, rfl, .inl ⟨_, rfl, ?_⟩⟩
            refine ⟨_, rfl, _, _, rfl, rfl, ⟨by omega, by omega⟩, _, _, rfl, ?_⟩
            rw [min_if, fdiv_pos lb.1]
            refine ⟨_, rfl, .inl ⟨rfl, _, .inl (.inl elg)⟩, ?_⟩
            refine ⟨_, rfl, _, _, rfl, rfl, min (F l) ((v - y.2) / l) + 1, rfl, by omega, by omega, fun M nM => ?_⟩
            have ilen : (item (F l) v l y).length = (min (F l) ((v - y.2) / l) + 1).toNat := by
              unfold item
              rw [List.length_map, List.length_range]
            refine lc_it (n := (min (F l) ((v - y.2) / l) + 1).toNat) walk_range (fun k H5 => Same H4 H5 ∧ ∃ us, H5 M = some (.lst (us.map V.ref)) ∧ Somes H5 us ((item (F l) v l y).take k))
              ⟨same_new nM, [], upd_same, rfl, fun i t y a => by simp at a⟩ (fun _ _ _ _ => True.intro) ?_ ?_
            · rintro k x H5 H5' hk ⟨sK, us, eM, smu⟩ ⟨rfl, rfl⟩
              refine ⟨rfl, yes (iteT ?_)⟩
              refine ⟨_, rfl, _, rfl, (by decide : 1 ≤ sizeLine), fun T6 n6 => ?_⟩
              have e6 : (upd H5' T6 (.tup [.int (0 + (k : Nat))])) T6 = some (Tp [(k : Int)]) := by
                rw [upd_same, Int.zero_add]
                rfl
              have s6 : Same H5' (upd H5' T6 (.tup [.int (0 + (k : Nat))])) := same_new n6
              refine cat_one (s6 _ _ (sK _ _ eb)) e6 (by omega) fun H7 p7 s7 e7 => ?_
              refine ⟨_, rfl, _, rfl, _, rfl, _, _, rfl, rfl, .inr (big lb), _, _, rfl, rfl, (by decide : 2 ≤ sizeLine), fun T8 n8 => ?_⟩
              have s67 := s6.trans s7
              have eM7 := s67 _ _ eM
              have nMT := ne_of_none eM7 n8
              have iy : (item (F l) v l y)[k]? = some (y.1 ++ [(k : Int)], y.2 + (k : Int) * l) := by
                unfold item
                rw [List.getElem?_map, List.getElem?_range hk]
                rfl
              have ulen := smu.1
              rw [List.length_take] at ulen
              refine ⟨_, relock eM7 nMT, ?_, same_up nM ((sK.trans s67).trans (same_new n8)), us ++ [T8], ?_, ?_⟩
              · rw [List.length_map]
                exact small1000 (by omega)
              · rw [upd_same, List.map_append]
                rfl
              · rw [take_at iy]
                have nt : ∀ ys, (upd H7 T8 (.tup [.ref p7, .int (y.2 + (0 + (k : Nat)) * l)])) M ≠ some (.tup ys) := fun ys z => by
                  rw [relock eM7 nMT] at z
                  cases z
                refine Somes.but (Somes.app ((smu.same s67).same (same_new n8)) (Somes.one (b := p7) ?_ ?_)) nt (Kept.up (Kept.refl M _))
                · rw [upd_same, Int.zero_add]
                · exact same_new n8 _ _ e7
            · rintro H5 ⟨sK, us, eM, smu⟩
              rw [← ilen, List.take_length] at smu
              have elg5 := sK _ _ elg
              have ul := smu.1
              have tl4 := sm4.1
              have il4 := item_len (v := v) (l := l) Fl3 y
              have gl4 := grow_len (v := v) (l := l) Fl3 ((somes F v (ls.take p)).take m)
              rw [List.length_take] at gl4
              have nt : ∀ ys, H5 lg ≠ some (.tup ys) := fun ys z => by
                rw [elg5] at z
                cases z
              refine ⟨lg, M, _, _, rfl, rfl, elg5, eM, ?_, ts4 ++ us, _, _, _, rfl, same_up nlg (s4'.trans sK), ?_, ?_⟩
              · rw [List.length_map, List.length_map]
                exact line1000 (by omega)
              · rw [upd_same, List.map_append]
              · rw [take_at hy, grow_snoc]
                exact Somes.but (Somes.app (sm4.same sK) smu) nt (Kept.up (Kept.refl lg _))
          · rintro σ H4 ⟨ts4, x13, x14, x15, rfl, s4', elg, sm4⟩
            rw [List.length_map, tlen, List.take_length] at sm4
            refine ⟨_, rfl, lg, ts4, _, _, _, _, _, _, rfl, (sP.trans sT).trans s4', elg, ?_⟩
            rw [take_at hl, somes_snoc]
            exact sm4
        · rintro σ H3 ⟨so, ts, x10, x11, x12, x13, x14, x15, rfl, sP, eso, sms⟩
          rw [List.length_map, List.take_length] at sms
          have eq3 := sP _ _ eq
          have ee3 := sP _ _ ee2
          have eA3' := sP _ _ eA2
          have nse : so ≠ e := fun z => by
            rw [z, ee3] at eso
            cases eso
          have nqe : qa ≠ e := fun z => by
            rw [z, ee3] at eq3
            cases eq3
          have nae : a2 ≠ e := fun z => by
            rw [z, ee3] at eA3'
            cases eA3'
          have nt3 : ∀ ys, H3 e ≠ some (.tup ys) := fun ys z => by
            rw [ee3] at z
            cases z
          have tlen := sms.1
          refine ⟨_, rfl, so, rfl, ⟨_, .inl (.inl eso)⟩, for_list (K := K) (a := so) (xs := ts.map V.ref) (fun m σ H5 => ∃ kk3 x13 x14,
              σ = [some (.ref d), some (.ref t), some (.ref a2), some (.ref dl), some (.int total), some (.ref r), some (.int v), some (.ref e), some (.ref qa), some (.ref so), x10, x11, x12, x13, x14, x15, none, none, x18] ∧ Kept e H3 H5 ∧ H5 e = some (Lev kk3) ∧ Half ls f (ws.take i) v kk j kk3 ∧ ∀ (m' : Nat) y, m' < m → (somes F v ls)[m']? = some y → subT ls.length (ls.map F) y.1 ∈ kk3)
            ⟨kk2, x13, x14, rfl, Kept.refl e H3, ee3, half, fun m' y h => absurd h (by omega)⟩ (fun m σ H5 _ ⟨_, _, _, _, kp, _⟩ => .inl (.inl (kp _ _ nse eso))) ?_ ?_⟩
          · rintro m x σ H5 hx ⟨kk3, x13, x14, rfl, kp, ee5, hf, pr⟩
            obtain ⟨t4, ht4, rfl⟩ := refs_at hx
            have hm4 : m < (somes F v ls).length := by
              have := (List.getElem?_eq_some_iff.mp ht4).1
              omega
            obtain ⟨y, hy⟩ : ∃ y, (somes F v ls)[m]? = some y := ⟨_, List.getElem?_eq_getElem hm4⟩
            obtain ⟨b, et, eb⟩ := (sms.but nt3 kp).2 m t4 y ht4 hy
            have wy := way_somes nls lp1 v0 ls.length (Nat.le_refl _) y (by rw [List.take_length]; exact List.mem_of_getElem? hy)
            rw [List.take_length] at wy
            obtain ⟨xw, w1, w2, w3, w4⟩ := wy
            have eq5 := kp _ _ nqe eq3
            have eA5' := kp _ _ nae eA3'
            refine ⟨t4, [.ref b, .int y.2], rfl, .inl (.inl et), rfl, _, _, rfl, _, _, rfl, rfl, ?_⟩
            refine ⟨_, rfl, ?_⟩
            dsimp only [tCB, tCons]
            refine range_m (n := ls.length) (H1 := H5) ((subT ls.length (ls.map F) y.1).map V.int) (fun RR z => ?_) (by rw [List.length_map]; exact tab_len ..) (by omega) (fun M k H6 hk p6 => ?_) fun H6 M s6 nM eM => ?_
            · refine ⟨_, rfl, a2, _, rfl, .inl (.inl (.inl eA5')), ?_⟩
              rw [List.length_map]
              exact z
            · have el' : ls[k]? = some ls[k] := List.getElem?_eq_getElem hk
              have g1 : (ls.map F)[k]? = some (F ls[k]) := by
                rw [List.getElem?_map, el']
                rfl
              have g2 : y.1[k]? = some (xw ls[k]) := by
                rw [w1, List.getElem?_map, el']
                rfl
              refine ⟨rfl, yes (iteT ?_)⟩
              refine ⟨_, rfl, _, rfl, qa, _, (k : Int), .int (F ls[k]), rfl, rfl, .inl (.inl (p6.same _ _ eq5)), atI_nat (at_ints g1), _, rfl, _, rfl, b, _, (k : Int), .int (xw ls[k]), rfl, rfl, .inl (.inl (p6.same _ _ eb)), atI_nat (at_ints g2), _, _, rfl, rfl, p6.fin (.refl _) (at_ints ?_)⟩
              show (tab ls.length _)[k]? = _
              rw [tab_at hk, show (ls.map F).getD k 0 = F ls[k] from getD_of g1, show y.1.getD k 0 = xw ls[k] from getD_of g2]
            · refine ⟨M, _, rfl, .inl ⟨.inl (.inl eM), fun kt nkt => ?_⟩⟩
              have ee6 := s6 _ _ ee5
              have nkt' := ne_of_none ee6 nkt
              have k3few : kk3.length ≤ 256 := level_few l4 f3 hf.nd hf.all
              refine ⟨e, _, rfl, DPut.t (k := keyT (subT ls.length (ls.map F) y.1)) (relock ee6 nkt') (by rw [upd_same, keyT_V]) (by unfold lev; rw [List.length_map]; exact small1000 (by omega)), ?_⟩
              rw [lev_put]
              have sx : subT ls.length (ls.map F) y.1 = ls.map fun l => F l - xw l := by
                rw [w1]
                exact subT_map ls F xw
              refine ⟨ins kk3 (subT ls.length (ls.map F) y.1), _, _, rfl, ((kp.trans (.of s6)).trans (.of (same_new nkt))).up, upd_same, ⟨ins_nodup hf.nd, fun L hL => ?_, fun j' h1 h2 => ins_mem.mpr (.inl (hf.gr j' h1 h2))⟩, fun m' y' h1 h2 => ?_⟩
              · rcases ins_mem.mp hL with z | z
                · exact hf.all L z
                · rw [z, sx]
                  exact ⟨_, rfl, S.more LN G w3 (by rw [← w2]; exact w4)⟩
              · by_cases c : m' < m
                · exact ins_mem.mpr (.inl (pr m' y' c h2))
                · have c2 : m' = m := by omega
                  subst c2
                  rw [hy] at h2
                  rw [← Option.some.inj h2]
                  exact ins_mem.mpr (.inr rfl)
          · rintro σ H5 ⟨kk3, x13, x14, rfl, kp, ee5, hf, pr⟩
            rw [List.length_map, tlen] at pr
            refine ⟨kk3, _, _, _, _, _, _, _, _, rfl, kept_same eB (sB2.trans sP) kp, ee5, hf.nd, hf.all, fun j' h1 h2 => ?_⟩
            by_cases c : j' < j
            · exact hf.gr j' c h2
            · have c2 : j' = j := by omega
              subst c2
              rw [hL] at h2
              have h2 := Option.some.inj h2
              obtain rfl := FG h2
              have g := gr_ok ls.reverse (lft ls.reverse f (ws.take i)) v (fun k hk => ⟨lp1 k (List.mem_reverse.mp hk), S.lo k (List.mem_reverse.mp hk)⟩) LN.rnd v0
              have gm := gr_somes (F := lft ls.reverse f (ws.take i)) lp1 (fun l hl => g.1 l (List.mem_reverse.mpr hl)) (by rw [← hsum_perm (List.reverse_perm ls)]; exact g.2) ls.length (Nat.le_refl _)
              rw [List.take_length] at gm
              obtain ⟨mi, hmi, emi⟩ := List.getElem_of_mem gm
              have z := pr mi _ hmi (by rw [List.getElem?_eq_getElem hmi, emi])
              rw [lft_snoc]
              rw [subT_map] at z
              exact z
      · rintro σ H2 ⟨kk2, x8, x9, x10, x11, x12, x13, x14, x15, rfl, sB2, ee2, half⟩
        rw [lvl] at half
        obtain ⟨ed2, s8⟩ := ilk _ sB2
        refine ⟨ed2, ?_⟩
        have ee8 : upd H2 dl (Lev kk) e = some (Lev kk2) := by
          rw [upd_ne nde.symm]
          exact ee2
        generalize upd H2 dl (Lev kk) = H8 at s8 ee8
        -- level = later
        refine ⟨_, rfl, ?_⟩
        -- rest
        refine ⟨e, Lev kk2, ee8, True.intro, fun od2 => ?_⟩
        have lo2 : LevelOk ls f (ws.take (i + 1)) kk2 := by
          rw [tk]
          obtain ⟨jg, hjg, eg⟩ := List.getElem_of_mem lo.gr
          exact ⟨half.nd, half.all, half.gr jg hjg (by rw [List.getElem?_eq_getElem hjg, eg])⟩
        have k2few : kk2.length ≤ 256 := level_few (by omega) f3 lo2.nd lo2.all
        have lvl2 : (lev kk2).length = kk2.length := List.length_map ..
        have eA8 := s8 _ _ eA5
        have eAL : upd H8 e (.frz od2 (Lev kk2)) a2 = some (Ls ls) := relock eA8 (fun z => by rw [z, ee8] at eA8; cases eA8)
        refine ⟨.ref e, rfl, e, od2, rfl, .inr ⟨lev kk2, upd_same, fun R nR => ?_⟩⟩
        have fR := (free_lock ee8 nR).1
        have nRe := (free_lock ee8 nR).2
        refine lc_m (walk_keysT (d := e) (o := od2) (kvs := lev kk2)) ((kk2.map (dotT ls)).map V.int) (by rw [List.length_map, List.length_map, lvl2]) (by rw [List.length_map, List.length_map]; omega) nR (fun _ z => z _ _ upd_same) (fun j x H9 H9' hj pp y => ?_) fun H9 s9 eR => ?_
        · obtain ⟨rfl, k, vv, qa, ek, rfl, eq⟩ := y
          obtain ⟨L, hL, rfl⟩ := lev_at ek
          rw [keyT_V] at eq
          refine ⟨rfl, yes (iteT ?_)⟩
          have eA9 := pp.same _ _ eAL
          obtain ⟨F, rfl, S⟩ := lo2.all L (List.mem_of_getElem? hL)
          dsimp only [tCB, tCons]
          refine range_m (n := ls.length) (H1 := H9') ((tab ls.length fun k => (ls.map F).getD k 0 * ls.getD k 0).map V.int) (fun RR z => ?_) (by rw [List.length_map, tab_len]) (by omega) (fun M3 k H10 hk p3 => ?_) fun H10 M3 s10 nM3 eM3 => ?_
          · refine ⟨_, rfl, a2, _, rfl, .inl (.inl (.inl eA9)), ?_⟩
            rw [List.length_map]
            exact z
          · have el' : ls[k]? = some ls[k] := List.getElem?_eq_getElem hk
            have lb := lpos _ (List.getElem_mem hk)
            refine ⟨rfl, yes (iteT ?_)⟩
            refine ⟨_, rfl, _, rfl, qa, _, (k : Int), .int (F ls[k]), rfl, rfl, .inl (.inl (p3.same _ _ eq)), atI_nat (at_ints (by rw [List.getElem?_map, el']; rfl)), _, rfl, _, rfl, a2, _, (k : Int), .int ls[k], rfl, rfl, .inl (.inl (p3.same _ _ eA9)), atI_nat (at_ints el'), _, _, rfl, rfl, .inr (big lb), p3.fin (.refl _) (at_ints ?_)⟩
            rw [tab_at hk, show (ls.map F).getD k 0 = F ls[k] from getD_of (by rw [List.getElem?_map, el']; rfl), show ls.getD k 0 = ls[k] from getD_of el']
          · refine ⟨M3, _, rfl, .inl (.inl eM3), pp.fin s10 (at_ints ?_)⟩
            rw [List.getElem?_map, hL]
            rfl
        · refine ⟨s9 _ _ upd_same, ?_⟩
          have s11 := unlock ee8 s9
          have er11 : upd H9 e (Lev kk2) r = some (Ls ((dones ls f ws).take i)) := s11 _ _ (s8 _ _ er)
          have eR11 : upd H9 e (Lev kk2) R = some (.lst ((kk2.map (dotT ls)).map V.int)) := by
            rw [upd_ne nRe]
            exact eR
          have ee11 : upd H9 e (Lev kk2) e = some (Lev kk2) := upd_same
          generalize upd H9 e (Lev kk2) = H11 at s11 er11 eR11 ee11
          have kpos : 0 < kk2.length := List.length_pos_of_mem lo2.gr
          refine ⟨_, rfl, .inl ⟨rfl, _, .inl (.inl er11)⟩, _, rfl, _, rfl, R, kk2.map (dotT ls), rfl, .inl (.inl eR11), by rw [List.length_map]; exact kpos, fun m hm hle => ?_⟩
          have wnon : ∀ w ∈ ws.take (i + 1), 0 ≤ w := fun w hw => wo.non w (List.mem_of_mem_take hw)
          have dg : dotT ls (ls.map (lft ls.reverse f (ws.take (i + 1)))) = hsum ls (lft ls.reverse f (ws.take (i + 1))) := hsum_tab ls _
          have em : total - m = done ls f (ws.take (i + 1)) := by
            obtain ⟨Lm, hLm, rfl⟩ := List.mem_map.mp hm
            have a1 := hle _ (List.mem_map.mpr ⟨_, lo2.gr, rfl⟩)
            obtain ⟨F, rfl, S⟩ := lo2.all Lm hLm
            have a2 := best_of LN G wnon S
            rw [dg] at a1
            have a3 : dotT ls (ls.map F) = hsum ls F := hsum_tab ls F
            unfold done
            omega
          have di : (dones ls f ws)[i]? = some (done ls f (ws.take (i + 1))) := tab_at hi
          refine ⟨_, _, rfl, rfl, r, _, _, rfl, rfl, er11, ?_, e, kk2, _, _, _, _, _, _, _, _, _, _, _, rfl, same_up nr (sH.trans (s8.trans s11)), ?_, ?_, lo2⟩
          · rw [List.length_map, List.length_take]
            refine Nat.lt_of_le_of_lt (Nat.min_le_left _ _) (small1000 (by omega))
          · rw [upd_same, take_at di, ← em]
            unfold Ls
            rw [List.map_append]
            rfl
          · rw [upd_ne her.symm]
            exact ee11
    · rintro σ H' ⟨dl, kk, x6, x7, x8, x9, x10, x11, x12, x13, x14, x15, x18, rfl, sH, er, el, lo⟩
      have e : (dones ls f ws).take (ws.map V.int).length = dones ls f ws := List.take_of_length_le (by
        rw [List.length_map, show (dones ls f ws).length = ws.length from tab_len ..]
        exact Nat.le_refl _)
      rw [e] at er
      exact ⟨_, rfl, q H' r (s3.trans sH) nr0 er⟩
end
end K81
namespace K81
open PySem PySem.Spec PyProof.Rows L2
section
variable {P : Program} {w : World} {K : PySem.W.Frag} {mg : Str → Option Value} {base : Heap}
/-! ### _law_bounds -/
abbrev sLB : Stmt := topS 39
abbrev nLB : List Str := ["_law_heap_here", "_law_windows_here", "_law_found", "_law_length", "_law_cut", "_law_window", "_law_other"]
theorem scLB : FnScope nLB ["_law_heap_here", "_law_windows_here"] (defScope sLB) := ⟨rfl, rfl, rfl, by decide +kernel, rfl, by decide +kernel, by decide +kernel⟩
def spLB : Sp := fun vs H Q _ => ∃ d ks f t ws ls, vs = [.ref d, .ref t] ∧ H d = some (Dk ks f) ∧ H t = some (Tp ws) ∧ Srt ls ks ∧ ks.length < 64 ∧ ws.length ≤ 1000 ∧ (∀ k ∈ ks, 1 ≤ k ∧ k ≤ 1000000) ∧
  ∀ H' p ts, Same H H' → H p = none → H' p = some (.lst (ts.map V.ref)) → Pairs H' ts (rows ls f ws) → Q (.ref p) H'
theorem ok_lbounds (N : Free mg) {f : Addr} {fd : FuncData} (D : Def K mg "_law_bounds" sLB ["_law_heap_here", "_law_windows_here"] f fd) : Has P w K mg base CX0 "_law_bounds" 1 ["_law_heap_here", "_law_windows_here"] spLB := by
  refine .of D (D.1.ok scLB (fun vs H Q E h => ?_) (fun cdv A outer s H vs Q E hr h => ?_))
  · obtain ⟨d, ks, f, t, ws, ls, rfl, _⟩ := h
    rfl
  · obtain ⟨d, ks, f, t, ws, ls, rfl, hd, ht, sr, few, wf, ok, q⟩ := h
    have nd := scLB.nd
    refine ⟨_, pss_cons (ps_set (i := 2) nd rfl (.inl rfl) (pe_lst (pa_cons (pe_tup (pa_cons pe_int (pa_cons (pe_callB (cr_sum rfl) (by rfl) N.sum bt_sum (pa_cons (pe_lock (pe_lc (own := [("_law_length", 3)]) (g := gName 3) (tt := tYes) rfl nd (pi_keys (pv 0)) (blkOk_by (N := nLB) (sc := defScope sLB) (by decide +kernel))
        (fun _ _ _ _ _ => (pg_name (i := 3) nd rfl (.inl rfl))) (fun _ _ _ _ _ => pts_nil) (fun _ _ _ _ _ => (pe_op op_mul (pv 3) (pe_dget (hu_of hr) (pv 0) (pv 3) (fun _ _ => rfl)))))) pa_nil)) pa_nil))) pa_nil)))
      (pss_cons (ps_for PassesOwn.never rfl (pi_list (pe_callB (call_sortedDI rfl) (by rfl) N.sorted bt_sorted (pa_cons (pv 0) pa_nil))) (pg_name (i := 3) nd rfl (.inr rfl))
      (pss_cons (ps_set (i := 4) nd rfl (.inl rfl) (pe_callB (cr_sum rfl) (by rfl) N.sum bt_sum (pa_cons (pe_lc (own := [("_law_window", 5)]) (g := gName 5) (tt := tYes) rfl nd (pi_tup (pv 1)) (blkOk_by (N := nLB) (sc := defScope sLB) (by decide +kernel))
        (fun _ _ _ _ _ => (pg_name (i := 5) nd rfl (.inl rfl))) (fun _ _ _ _ _ => pts_nil) (fun _ _ _ _ _ => (pe_op op_mul (pe_callTy call_int1 (by rfl) N.int bt_int (pa_cons (pe_op op_fdivN (pv 5) (pv 3)) pa_nil)) (pv 3)))) pa_nil)))
      (pss_one (ps_expr (pe_bm PySem.F.plainAttrs_list PySem.F.slot_list_append PySem.F.type_list_append mt_append (pv 2) (pa_cons (pe_tup (pa_cons (pv 3) (pa_cons (pe_op op_add (pv 4) (pe_callB (cr_sum rfl) (by rfl) N.sum bt_sum (pa_cons (pe_lock (pe_lc (own := [("_law_other", 6)]) (g := gName 6) rfl nd (pi_keys (pv 0)) (blkOk_by (N := nLB) (sc := defScope sLB) (by decide +kernel))
        (fun _ _ _ _ _ => (pg_name (i := 6) nd rfl (.inl rfl))) (fun _ _ _ _ _ => pts_one (pt_cmpR op_lt (pv 6) (pv 3) (nomark _))) (fun _ _ _ _ _ => (pe_op op_mul (pv 6) (pe_dget (hu_of hr) (pv 0) (pv 6) (fun _ _ => rfl)))))) pa_nil))) pa_nil))) pa_nil))))))
      (pss_one (ps_ret (pv 2)))), ?_⟩
    have wfew : ks.length ≤ 1000 := by omega
    dsimp only [tSeq, tAsg, tLst, tTup, tCB, tCons, tC]
    refine keys_m (ks.map fun k => V.int (k * f k)) rfl hd (List.length_map ..) wfew (fun od M j k H' hk ne p => ?_) fun H1 M s1 nM eM => ⟨M, ks.map fun k => k * f k, rfl, .inl (.inl ?_), (by decide : 2 ≤ sizeLine), fun T nT => ⟨(by decide : 1 ≤ sizeLine), fun r nr => ?_⟩⟩
    · have hm : k ∈ ks := List.mem_of_getElem? hk
      refine ⟨rfl, yes (iteT ?_)⟩
      refine ⟨_, rfl, _, rfl, _, rfl, d, .int (f k), rfl, Dk_get (same_rd p.same (.inr ⟨od, upd_same⟩)) hm, _, _, rfl, rfl, .inl (big (ok k hm)), p.fin (.refl _) ?_⟩
      rw [List.getElem?_map, hk]
      rfl
    · rw [List.map_map]
      exact eM
    have tot : (ks.map fun k => k * f k).sum = hsum ls f := (hsum_perm sr.perm f).symm
    have s2 := s1.trans (same_new (o := .tup [.int 0, .int (ks.map fun k => k * f k).sum]) nT)
    have s3 := s2.trans (same_new (o := .lst [.ref T]) nr)
    have nr0 := s2.free nr
    have hT : (upd (upd H1 T (.tup [.int 0, .int (ks.map fun k => k * f k).sum])) r (.lst [.ref T])) T = some (Tp [0, hsum ls f]) := by
      rw [upd_ne (ne_of_none upd_same nr), upd_same, tot]
      rfl
    refine ⟨_, rfl, d, _, ks, rfl, .inl (s3 _ _ hd), ents_keys ks f, few, fun ns p pm up np => ?_⟩
    obtain rfl : ls = ns := (up_uniq (pm.trans sr.perm.symm) up (sr.up.imp fun z => by omega)).symm
    have npr : p ≠ r := fun z => by
      rw [z, upd_same] at np
      cases np
    have s4 := s3.trans (same_new (o := .lst (ls.map V.int)) np)
    refine ⟨p, rfl, ⟨_, .inl (.inl upd_same)⟩, for_list (K := K) (a := p) (xs := ls.map V.int) (fun i σ H' => ∃ ts x3 x4, σ = [some (.ref d), some (.ref t), some (.ref r), x3, x4, none, none] ∧ Same H H' ∧ H' p = some (Ls ls) ∧ H' r = some (.lst (ts.map V.ref)) ∧ Pairs H' ts ((rows ls f ws).take (i + 1)))
      ⟨[T], none, none, rfl, s4, upd_same, ?_, ?_⟩ (fun i σ H' _ ⟨_, _, _, _, _, e, _⟩ => .inl (.inl e)) ?_ ?_⟩
    · rw [upd_ne npr.symm, upd_same]
      rfl
    · refine ⟨rfl, fun i t q a b => ?_⟩
      cases i with
      | succ i => simp at a
      | zero =>
        have e1 : T = t := by simpa using a
        have e2 : (0, hsum ls f) = q := by simpa [rows] using b
        subst e1 e2
        exact same_new np _ _ hT
    · rintro i x σ H' hx ⟨ts, x3, x4, rfl, sm, ep, er, pr⟩
      obtain ⟨l, hl, rfl⟩ := ints_at hx
      have hm : l ∈ ls := List.mem_of_getElem? hl
      obtain ⟨b1, b2⟩ := ok l (sr.mem.mp hm)
      have hi : i < ls.length := (List.getElem?_eq_some_iff.mp hl).1
      dsimp only [gName, tSeq, tAsg, tCB, tCons]
      refine tup_m (K := K) (ws.map fun v => V.int (v / l * l)) rfl (.inl (.inl (sm _ _ ht))) (List.length_map ..) wf (fun M2 j v H3 hv pp => ?_) fun H3 M2 s6 nM2 eM2 => ?_
      · refine ⟨rfl, yes (iteT ?_)⟩
        refine ⟨_, rfl, _, rfl, _, _, rfl, rfl, ⟨by omega, by omega⟩, .inl ⟨_, rfl, ?_⟩⟩
        refine ⟨_, rfl, _, _, rfl, rfl, .inr (big ⟨b1, b2⟩), pp.fin (.refl _) ?_⟩
        rw [List.getElem?_map, hv, fdiv_pos b1]
        rfl
      · refine ⟨M2, ws.map fun v => v / l * l, rfl, .inl (.inl ?_), ?_⟩
        · rw [List.map_map]
          exact eM2
        have sm2 := sm.trans s6
        have er2 := s6 _ _ er
        refine ⟨_, rfl, .inl ⟨rfl, _, .inl (.inl er2)⟩, _, rfl, _, rfl, ?_⟩
        dsimp only [tTup, tOp, tCons, tCB]
        refine keys_f (fun o => decide (o < l)) (fun o => .int (o * f o)) rfl (sm2 _ _ hd) wfew (fun od M j k H2 hk nl pp => ?_) fun H4 M s5 nM eM => ?_
        · have km : k ∈ ks := List.mem_of_getElem? hk
          refine ⟨rfl, ?_⟩
          refine ⟨_, rfl, _, rfl, _, _, rfl, rfl, _, rfl, ?_⟩
          by_cases c : k < l
          · refine ite2 (fun _ => ?_) fun z => absurd (decide_eq_true c) z
            refine ⟨_, rfl, _, rfl, _, rfl, d, .int (f k), rfl, Dk_get (same_rd pp.same (.inr ⟨od, upd_same⟩)) km, _, _, rfl, rfl, .inl (big (ok k km)), ?_⟩
            exact pp.yes (.refl _) hk (decide_eq_true c)
          · refine ite2 (fun z => absurd (of_decide_eq_true z) c) fun _ => ?_
            exact pp.no (.refl _) hk (decide_eq_false c)
        · refine ⟨M, (ks.filter fun o => decide (o < l)).map fun o => o * f o, rfl, .inl (.inl ?_), ?_⟩
          · rw [List.map_map]
            exact eM
          have sm3 := sm2.trans s5
          have er3 := s5 _ _ er2
          have ep3 := s5 _ _ (s6 _ _ ep)
          refine ⟨_, _, rfl, rfl, (by decide : 2 ≤ sizeLine), fun T2 nT2 => ?_⟩
          have nTr : T2 ≠ r := fun z => by
            rw [z, er3] at nT2
            cases nT2
          have nTp : T2 ≠ p := fun z => by
            rw [z, ep3] at nT2
            cases nT2
          refine ⟨r, _, _, rfl, rfl, by rw [upd_ne nTr.symm]; exact er3, ?_, ts ++ [T2], some (.int l), _, rfl, same_up nr0 (sm3.trans (same_new nT2)), ?_, ?_, ?_⟩
          · rw [List.length_map, pr.1, List.length_take]
            refine Nat.lt_of_le_of_lt (Nat.min_le_right _ _) (small1000 ?_)
            rw [rows_len, sr.len]
            omega
          · rw [upd_ne npr, upd_ne nTp.symm]
            exact ep3
          · rw [upd_same, List.map_append]
            rfl
          · have ra : (rows ls f ws)[i + 1]? = some (l, bnd ls f ws l) := rows_at hl
            rw [take_at ra]
            refine Pairs.snoc ⟨pr.1, fun j t' q' a b => ?_⟩ ?_
            · have z := pr.2 j t' q' a b
              have n1 : t' ≠ r := fun y => by
                subst y
                rw [er] at z
                cases z
              rw [upd_ne n1]
              exact same_new nT2 _ _ (s5 _ _ (s6 _ _ z))
            · rw [upd_ne nTr, upd_same]
              have e : hlt ls f l = ((ks.filter fun o => decide (o < l)).map fun o => o * f o).sum := hlt_perm sr.perm f l
              show some (HO.tup [V.int l, V.int ((ws.map fun v => v / l * l).sum + ((ks.filter fun o => decide (o < l)).map fun o => o * f o).sum)]) = some (Tp [l, bnd ls f ws l])
              rw [← e]
              rfl
    · rintro σ H' ⟨ts, x3, x4, rfl, sm, ep, er, pr⟩
      have e : (rows ls f ws).take ((ls.map V.int).length + 1) = rows ls f ws := List.take_of_length_le (by
        rw [rows_len, List.length_map]
        exact Nat.le_refl _)
      rw [e] at pr
      exact ⟨_, rfl, q H' r ts sm nr0 er pr⟩
/-! ### _law_go -/
abbrev sGo : Stmt := topS 41
abbrev nGo : List Str := ["_law_heap_here", "_law_lengths_here", "_law_k"]
theorem scGo : FnScope nGo ["_law_heap_here"] (defScope sGo) := ⟨rfl, rfl, rfl, by decide +kernel, rfl, by decide +kernel, by decide +kernel⟩
def spGo : Sp := fun vs H Q _ => ∃ d ks f ls, vs = [.ref d] ∧ H d = some (Dk ks f) ∧ Srt ls ks ∧ ks.length < 64 ∧ 1 ≤ ks.length ∧ (∀ k ∈ ks, 1 ≤ k) ∧ (Goes ls → ∀ H', Same H H' → Q (.bl true) H') ∧ (¬ Goes ls → ∀ H', Same H H' → Q (.bl false) H')
def adj (ls : List Int) : List Bool := (List.range (ls.length - 1)).map fun k => decide (ls.getD (k + 1) 0 % ls.getD k 0 = 0)
theorem adj_goes : ∀ (ls : List Int), (∀ (k : Nat) (x y : Int), ls[k]? = some x → ls[k + 1]? = some y → x ∣ y) → Goes ls
  | [], _ => List.Pairwise.nil
  | [x], _ => List.pairwise_singleton _ x
  | x :: y :: r, h => by
    have ih := adj_goes (y :: r) fun k a b h1 h2 => h (k + 1) a b (by simpa using h1) (by simpa using h2)
    have h0 : x ∣ y := h 0 x y rfl rfl
    refine List.pairwise_cons.mpr ⟨fun z hz => ?_, ih⟩
    rcases List.mem_cons.mp hz with e | m
    · rw [e]
      exact h0
    · exact Int.dvd_trans h0 ((List.pairwise_cons.mp ih).1 z m)
theorem adj_all {ls : List Int} : (adj ls).all id = true ↔ Goes ls := by
  refine ⟨fun h => adj_goes ls fun k x y a b => ?_, fun g => ?_⟩
  · have hk : k < ls.length - 1 := by
      have := (List.getElem?_eq_some_iff.mp b).1
      omega
    have m : decide (ls.getD (k + 1) 0 % ls.getD k 0 = 0) ∈ adj ls := List.mem_map.mpr ⟨k, List.mem_range.mpr hk, rfl⟩
    have t := List.all_eq_true.mp h _ m
    rw [show ls.getD (k + 1) 0 = y from getD_of b, show ls.getD k 0 = x from getD_of a] at t
    exact Int.dvd_of_emod_eq_zero (of_decide_eq_true t)
  · rw [List.all_eq_true]
    intro b hb
    obtain ⟨k, hk, rfl⟩ := List.mem_map.mp hb
    have hk := List.mem_range.mp hk
    have a : ls[k]? = some (ls[k]'(by omega)) := List.getElem?_eq_getElem (by omega)
    have c : ls[k + 1]? = some (ls[k + 1]'(by omega)) := List.getElem?_eq_getElem (by omega)
    refine decide_eq_true ?_
    rw [show ls.getD (k + 1) 0 = _ from getD_of c, show ls.getD k 0 = _ from getD_of a]
    exact Int.emod_eq_zero_of_dvd (goes_at.mp g k (k + 1) _ _ (by omega) a c)
theorem ok_go (N : Free mg) {f : Addr} {fd : FuncData} (D : Def K mg "_law_go" sGo ["_law_heap_here"] f fd) : Has P w K mg base CX0 "_law_go" 1 ["_law_heap_here"] spGo := by
  refine .of D (D.1.ok scGo (fun vs H Q E h => ?_) (fun cdv A outer s H vs Q E hr h => ?_))
  · obtain ⟨d, ks, f, ls, rfl, _⟩ := h
    rfl
  · obtain ⟨d, ks, f, ls, rfl, hd, sr, few, one, pos, q1, q2⟩ := h
    have nd := scGo.nd
    refine ⟨_, pss_cons (ps_set (i := 1) nd rfl (.inr rfl) (pe_callB (call_sortedDI rfl) (by rfl) N.sorted bt_sorted (pa_cons (pv 0) pa_nil)))
      (pss_one (ps_ret (pe_callB (cr_all rfl) (by rfl) N.all bt_all (pa_cons (pe_lc (own := [("_law_k", 2)]) (g := gName 2) (tt := tYes) rfl nd (pi_range1 (by rfl) N.range (pa_cons (pe_op op_sub (pe_callB call_len_seq (by rfl) N.len bt_len (pa_cons (pv 1) pa_nil)) pe_int) pa_nil)) (blkOk_by (N := nGo) (sc := defScope sGo) (by decide +kernel))
        (fun _ _ _ _ _ => (pg_name (i := 2) nd rfl (.inl rfl))) (fun _ _ _ _ _ => pts_nil) (fun _ _ _ _ _ => (pe_cmpR op_eq (pe_op op_modN (pe_callTy call_int1 (by rfl) N.int bt_int (pa_cons (pe_ix (ix_listK K rfl) (pv 1) (pe_op op_add (pv 2) pe_int) (fun _ _ => rfl)) pa_nil)) (pe_ix (ix_listK K rfl) (pv 1) (pv 2) (fun _ _ => rfl))) pe_int (nomark _)))) pa_nil)))), ?_⟩
    refine ⟨_, rfl, d, _, ks, rfl, .inl hd, ents_keys ks f, few, fun ns p pm up np => ?_⟩
    obtain rfl : ls = ns := (up_uniq (pm.trans sr.perm.symm) up (sr.up.imp fun z => by omega)).symm
    have s1 : Same H (upd H p (.lst (ls.map V.int))) := same_new np
    have ep : (upd H p (.lst (ls.map V.int))) p = some (Ls ls) := upd_same
    generalize upd H p (.lst (ls.map V.int)) = H1 at s1 ep
    have lk := sr.len
    have al : (adj ls).length = ls.length - 1 := by
      unfold adj
      rw [List.length_map, List.length_range]
    dsimp only [gName, tRet, tCB, tCons]
    refine range_m (n := ls.length - 1) (H1 := H1) ((adj ls).map V.bl) (fun R z => ?_) (by rw [List.length_map, al]) (by omega) (fun M k H2 hk pp => ?_) fun H2 M s2 nM eM => ⟨M, adj ls, rfl, .inl (.inl eM), ?_⟩
    · refine ⟨_, rfl, p, _, rfl, .inl (.inl (.inl ep)), _, _, rfl, rfl, ?_⟩
      have e : ((ls.map V.int).length : Int) - 1 = ((ls.length - 1 : Nat) : Int) := by
        rw [List.length_map]
        omega
      dsimp only
      rw [e]
      exact z
    · have a : ls[k]? = some (ls[k]'(by omega)) := List.getElem?_eq_getElem (by omega)
      have c : ls[k + 1]? = some (ls[k + 1]'(by omega)) := List.getElem?_eq_getElem (by omega)
      have pk : 1 ≤ ls[k]'(by omega) := pos _ (sr.mem.mp (List.getElem_mem _))
      have ep2 := pp.same _ _ ep
      refine ⟨rfl, yes (iteT ?_)⟩
      refine ⟨_, rfl, _, rfl, _, _, rfl, rfl, p, _, ((k + 1 : Nat) : Int), .int (ls[k + 1]'(by omega)), rfl, rfl, .inl (.inl ep2), atI_nat (at_ints c), .inl ⟨_, rfl, ?_⟩⟩
      refine ⟨_, rfl, _, rfl, p, _, (k : Int), .int (ls[k]'(by omega)), rfl, rfl, .inl (.inl ep2), atI_nat (at_ints a), _, _, rfl, rfl, by omega, rfl, pp.fin (.refl _) ?_⟩
      unfold adj
      rw [List.getElem?_map, List.getElem?_map, List.getElem?_range hk]
      have g1 : ls.getD (k + 1) 0 = _ := getD_of c
      have g2 : ls.getD k 0 = _ := getD_of a
      refine congrArg some (congrArg V.bl (decide_eq_decide.mpr ?_))
      rw [g1, g2]
      show _ ↔ V.int ((ls[k + 1]'(by omega)).fmod (ls[k]'(by omega))) = V.int 0
      rw [fmod_pos pk]
      exact ⟨fun e => by rw [e], fun e => V.int.inj e⟩
    · by_cases g : Goes ls
      · rw [adj_all.mpr g]
        exact q1 g H2 (s1.trans s2)
      · have e : (adj ls).all id = false := by
          cases c : (adj ls).all id with
          | false => rfl
          | true => exact absurd (adj_all.mp c) g
        rw [e]
        exact q2 g H2 (s1.trans s2)
end
end K81
namespace K81
open PySem PySem.Spec PyProof.Rows L2
section
variable {P : Program} {w : World} {K : PySem.W.Frag} {mg : Str → Option Value} {base : Heap}
/-! ### _law_lengths -/
abbrev sLens : Stmt := topS 42
abbrev nLens : List Str := ["_law_heap_here", "_law_windows_here", "_law_most", "_law_found", "_law_k", "_law_bounds_here", "_law_length", "_law_hours"]
theorem scLens : FnScope nLens ["_law_heap_here", "_law_windows_here", "_law_most"] (defScope sLens) := ⟨rfl, rfl, rfl, by decide +kernel, rfl, by decide +kernel, by decide +kernel⟩
def spLens : Sp := fun vs H Q _ => ∃ d ks f t ws m ls, vs = [.ref d, .ref t, .ref m] ∧ H d = some (Dk ks f) ∧ HeapOk ks f ∧ H t = some (Tp ws) ∧ WinOk ws ∧ Srt ls ks ∧ Goes ls ∧ H m = some (Tp (dones ls f ws)) ∧
  ∀ H' p, Same H H' → H p = none → H' p = some (Tp (lens ls f ws)) → Q (.ref p) H'
theorem ok_llens (N : Free mg) (GB : Has P w K mg base CX0 "_law_bounds" 1 ["_law_heap_here", "_law_windows_here"] spLB) {f : Addr} {fd : FuncData} (D : Def K mg "_law_lengths" sLens ["_law_heap_here", "_law_windows_here", "_law_most"] f fd) :
    Has P w K mg base CX0 "_law_lengths" 2 ["_law_heap_here", "_law_windows_here", "_law_most"] spLens := by
  refine .of D (D.1.ok scLens (fun vs H Q E h => ?_) (fun cdv A outer s H vs Q E hr h => ?_))
  · obtain ⟨d, ks, f, t, ws, m, ls, rfl, _⟩ := h
    rfl
  · obtain ⟨d, ks, f, t, ws, m, ls, rfl, hd, ok, ht, wo, sr, G, hm, q⟩ := h
    have nd := scLens.nd
    refine ⟨_, pss_cons (ps_set (i := 3) nd rfl (.inl rfl) (pe_lst pa_nil))
      (pss_cons (ps_for PassesOwn.never rfl (pi_range1 (by rfl) N.range (pa_cons (pe_callB call_len_seq (by rfl) N.len bt_len (pa_cons (pv 1) pa_nil)) pa_nil)) (pg_name (i := 4) nd rfl (.inr rfl))
      (pss_cons (ps_set (i := 5) nd rfl (.inl rfl) (pcall GB (hr.mono (by decide)) (pa_cons (pv 0) (pa_cons (pe_slice sl_tupA (pv 1) po_none (po_some (pe_op op_add (pv 4) pe_int))) pa_nil))))
      (pss_one (ps_expr (pe_bm PySem.F.plainAttrs_list PySem.F.slot_list_append PySem.F.type_list_append mt_append (pv 3) (pa_cons (pe_ix ix_list (pe_lc (own := [("_law_length", 6), ("_law_hours", 7)]) (g := gTup K 2 (gCons (gName 6) (gCons (gName 7) gNil))) rfl nd (pi_list (pv 5)) (blkOk_by (N := nLens) (sc := defScope sLens) (by decide +kernel))
        (fun _ _ _ _ _ => (pg_tup rfl (pgs_cons (pg_name (i := 6) nd rfl (.inl rfl)) (pgs_cons (pg_name (i := 7) nd rfl (.inl rfl)) pgs_nil)))) (fun _ _ _ _ _ => pts_one (pt_cmpR op_eq (pv 7) (pe_ix (ix_tupK K rfl) (pv 2) (pv 4) (fun _ _ => rfl)) (nomark _))) (fun _ _ _ _ _ => (pv 6))) pe_int (fun _ _ => rfl)) pa_nil))))))
      (pss_one (ps_ret (pe_callTy call_tuple_of (by rfl) N.tuple bt_tuple (pa_cons (pv 3) pa_nil))))), ?_⟩
    refine ⟨Nat.zero_le _, fun r nr => ?_⟩
    have s1 : Same H (upd H r (.lst [])) := same_new nr
    have wf := wo.few
    have few := ok.few
    have bk : ∀ k ∈ ks, 1 ≤ k ∧ k ≤ 1000000 := fun k hk => ⟨ok.pos k hk, ok.top k hk⟩
    have ll : (lens ls f ws).length = ws.length := tab_len ..
    have hn : ((ws.map V.int).length : Int).toNat = ws.length := by
      rw [List.length_map]
      omega
    refine ⟨_, rfl, t, _, rfl, .inr (.inl (.inl (s1 _ _ ht))), (ws.map V.int).length, rfl, by rw [List.length_map]; omega, by rw [List.length_map]; omega, ?_⟩
    rw [hn]
    refine for_range (n := ws.length) (fun i σ H' => ∃ x4 x5, σ = [some (.ref d), some (.ref t), some (.ref m), some (.ref r), x4, x5, none, none] ∧ Same H H' ∧ H' r = some (Ls ((lens ls f ws).take i)))
      ⟨none, none, rfl, s1, upd_same⟩ ?_ ?_
    · rintro i σ H' hi ⟨x4, x5, rfl, sm, er⟩
      refine ⟨_, rfl, _, rfl, _, rfl, _, _, rfl, rfl, ((i + 1 : Nat) : Int), congrArg V.int (by omega), ?_⟩
      refine head_tup (sm _ _ ht) fun H4 t4 s6 e4 => ?_
      have s7 := sm.trans s6
      refine ⟨d, ks, f, t4, ws.take (i + 1), ls, rfl, s7 _ _ hd, e4, sr, by omega, by have := (wo.take (i + 1)).few; omega, bk, fun H5 pb tb s8 n5 e5 pr5 => ?_⟩
      have s9 := s7.trans s8
      have er5 := s8 _ _ (s6 _ _ er)
      have hm5 := s9 _ _ hm
      have rl := rows_len ls f (ws.take (i + 1))
      have tl := pr5.1
      have lk := sr.len
      have di : (dones ls f ws)[i]? = some (done ls f (ws.take (i + 1))) := tab_at hi
      obtain ⟨rest, hrest⟩ := firstL_ne (ok.lens sr) G (ws.take (i + 1)) (wo.take (i + 1)).non
      refine ⟨_, rfl, .inl ⟨rfl, _, .inl (.inl er5)⟩, _, rfl, pb, rfl, ⟨_, .inl (.inl e5)⟩, fun L nL => ?_⟩
      refine lc_it (n := (tb.map V.ref).length) (walk_list (K := K) (a := pb) (xs := tb.map V.ref)) (fun j H' => Same H5 H' ∧ H' L = some (.lst ((((rows ls f (ws.take (i + 1))).take j).filter fun p => decide (p.2 = done ls f (ws.take (i + 1)))).map fun p => V.int p.1)))
        ⟨same_new nL, upd_same⟩ (fun j H' _ z => .inl (.inl (z.1 _ _ e5))) ?_ ?_
      · rintro j x H6 H6' hj ⟨s6', eL⟩ ⟨rfl, ex⟩
        obtain ⟨t6, ht6, rfl⟩ := refs_at ex
        have hj' : j < (rows ls f (ws.take (i + 1))).length := by
          have := (List.getElem?_eq_some_iff.mp ht6).1
          omega
        obtain ⟨y, hy⟩ : ∃ y, (rows ls f (ws.take (i + 1)))[j]? = some y := ⟨_, List.getElem?_eq_getElem hj'⟩
        have et := s6' _ _ (pr5.2 j t6 y ht6 hy)
        refine ⟨t6, [.int y.1, .int y.2], rfl, .inl (.inl et), rfl, _, _, rfl, _, _, rfl, rfl, rfl, ?_⟩
        refine ⟨_, rfl, _, rfl, _, rfl, m, _, _, .int (done ls f (ws.take (i + 1))), rfl, rfl, .inl (.inl (s6' _ _ hm5)), at_of (j := i) (by omega) (at_ints di), rfl, _, rfl, ?_⟩
        by_cases c : y.2 = done ls f (ws.take (i + 1))
        · refine ite2 (fun _ => ?_) fun z => absurd (decide_eq_true (by rw [c])) z
          refine ⟨_, rfl, _, eL, ?_, same_up nL s6', ?_⟩
          · rw [List.length_map]
            refine Nat.lt_of_le_of_lt (Nat.le_trans (List.length_filter_le _ _) ?_) (small1000 (show (rows ls f (ws.take (i + 1))).length ≤ 1000 by omega))
            rw [List.length_take]
            exact Nat.min_le_right _ _
          · rw [upd_same, take_at hy, List.filter_append, List.filter_cons_of_pos (by simpa using c), List.map_append]
            rfl
        · refine ite2 (fun z => absurd (V.int.inj (of_decide_eq_true z)) c) fun _ => ⟨s6', ?_⟩
          rw [eL, take_at hy, List.filter_append, List.filter_cons_of_neg (by simpa using c), List.filter_nil, List.append_nil]
      · rintro H6 ⟨s6', eL⟩
        rw [List.length_map, tl, List.take_length] at eL
        have e0 : ((rows ls f (ws.take (i + 1))).filter fun p => decide (p.2 = done ls f (ws.take (i + 1)))).map (fun p => V.int p.1) = (firstL ls f (ws.take (i + 1)) (done ls f (ws.take (i + 1)))).map V.int := by
          unfold firstL
          rw [List.map_map]
          rfl
        rw [e0, hrest] at eL
        refine ⟨L, _, 0, .int (lenOf ls f (ws.take (i + 1))), rfl, rfl, .inl (.inl eL), atI_nat (j := 0) rfl, ?_⟩
        have li : (lens ls f ws)[i]? = some (lenOf ls f (ws.take (i + 1))) := tab_at hi
        refine ⟨r, _, _, rfl, rfl, s6' _ _ er5, ?_, _, _, rfl, same_up nr (s9.trans s6'), ?_⟩
        · rw [List.length_map, List.length_take]
          exact Nat.lt_of_le_of_lt (Nat.min_le_left _ _) (small1000 (by omega))
        · rw [upd_same, take_at li]
          unfold Ls
          rw [List.map_append]
          rfl
    · rintro σ H' ⟨x4, x5, rfl, sm, er⟩
      have e : (lens ls f ws).take ws.length = lens ls f ws := List.take_of_length_le (by omega)
      rw [e] at er
      exact ⟨_, rfl, r, _, rfl, .inl ⟨.inl (.inl er), fun p np => q _ p (sm.trans (same_new np)) (sm.free np) upd_same⟩⟩
/-! ### _law_told -/
abbrev sTold : Stmt := topS 40
theorem scTold : FnScope ["_law_heap_here", "_law_windows_here", "_law_told_here"] ["_law_heap_here", "_law_windows_here"] (defScope sTold) := ⟨rfl, rfl, rfl, by decide +kernel, rfl, by decide +kernel, by decide +kernel⟩
def spTold : Sp := fun vs H Q _ => ∃ d ks f t ws ls, vs = [.ref d, .ref t] ∧ H d = some (Dk ks f) ∧ HeapOk ks f ∧ H t = some (Tp ws) ∧ WinOk ws ∧ Srt ls ks ∧
  (¬ Goes ls → ∀ H', Same H H' → Q .non H') ∧ (Goes ls → ∀ H' p m b, Same H H' → H' p = some (.tup [.ref m, .ref b]) → H' m = some (Tp (dones ls f ws)) → H' b = some (Tp (lens ls f ws)) → Q (.ref p) H')
theorem ok_told {C : Addr} (T : Err K mg C) (GM : Has P w K mg base (L2.CX P w) "most_done" 6 ["heap", "windows"] (spOf C dones)) (GB : Has P w K mg base (L2.CX P w) "bound_by" 6 ["heap", "windows"] (spOf C lens))
    {f : Addr} {fd : FuncData} (D : Def K mg "_law_told" sTold ["_law_heap_here", "_law_windows_here"] f fd) : Has P w K mg base CX0 "_law_told" 7 ["_law_heap_here", "_law_windows_here"] spTold := by
  refine .of D (D.1.ok scTold (fun vs H Q E h => ?_) (fun cdv A outer s H vs Q E hr h => ?_))
  · obtain ⟨d, ks, f, t, ws, ls, rfl, _⟩ := h
    rfl
  · obtain ⟨d, ks, f, t, ws, ls, rfl, hd, ok, ht, wo, sr, qn, qg⟩ := h
    have nd := scTold.nd
    refine ⟨_, pss_cons (ps_set (i := 2) nd rfl (.inl rfl) pe_non)
      (pss_cons (ps_try_only (tb := fun W => tAsg (tTup (tCons (tCallS (spOf C dones) (WE W) (tCons (tVar 0) (tCons (tVar 1) tNil))) (tCons (tCallS (spOf C lens) (WE W) (tCons (tVar 0) (tCons (tVar 1) tNil))) tNil))) (gName 2))
          (ts := fun _ _ _ => tAsg (tC .non) (gName 2)) (Wout := fun _ _ _ _ => False) rfl rfl ⟨rfl, by decide, .inl T.g⟩ takes0
        (fun W pn xe tk _ => pss_one (ps_set (i := 2) nd rfl (.inl rfl) (by exact (pe_tup (pa_cons (pcallS GM hr (fun σ => passAt tk σ) (pa_cons (pv 0) (pa_cons (pv 1) pa_nil))) (pa_cons (pcallS GB hr (fun σ => passAt tk σ) (pa_cons (pv 0) (pa_cons (pv 1) pa_nil))) pa_nil))))))
        (fun a oe cls dd pn _ _ => pss_one (ps_set (i := 2) nd rfl (.inl rfl) pe_non)))
      (pss_one (ps_ret (pv 2)))), ?_⟩
    refine ⟨_, rfl, _, rfl, d, ks, f, t, ws, ls, rfl, hd, ok, ht, wo, sr, fun g H1 s1 => ?_, fun g H1 m s1 nm em => ?_⟩
    · refine ⟨true, T.is_, fun _ a ha => ?_, fun z => Bool.noConfusion z⟩
      exact ⟨_, rfl, qn g H1 s1⟩
    · refine ⟨_, rfl, _, rfl, d, ks, f, t, ws, ls, rfl, s1 _ _ hd, ok, s1 _ _ ht, wo, sr, fun ng => absurd g ng, fun _ H2 b s2 nb eb => ⟨(by decide : 2 ≤ sizeLine), fun p np => ?_⟩⟩
      exact ⟨_, rfl, qg g _ p m b ((s1.trans s2).trans (same_new np)) upd_same (same_new np _ _ (s2 _ _ em)) (same_new np _ _ eb)⟩
/-! ### _law_is -/
abbrev sIs : Stmt := topS 34
abbrev nIs : List Str := ["_law_told_here", "_law_due", "_law_one", "_law_two"]
theorem scIs : FnScope nIs ["_law_told_here", "_law_due"] (defScope sIs) := ⟨rfl, rfl, rfl, by decide +kernel, rfl, by decide +kernel, by decide +kernel⟩
def spIs (R : V → V → Hp → Prop) : Sp := fun vs H Q _ => ∃ x y, vs = [x, y] ∧ R x y H ∧ ∀ H', Same H H' → Q (.bl true) H'
def TwI : V → V → Hp → Prop := fun x y _ => ∃ n, x = .int n ∧ y = .int n
def TwT (R : V → V → Hp → Prop) : V → V → Hp → Prop := fun x y H => ∃ a b xs ys, x = .ref a ∧ y = .ref b ∧ H a = some (.tup xs) ∧ H b = some (.tup ys) ∧ xs.length = ys.length ∧ xs.length ≤ 1000 ∧ ∀ (i : Nat) u v, xs[i]? = some u → ys[i]? = some v → R u v H
theorem walk_zipT {K : PySem.W.Frag} {a b : Addr} {xs ys : List V} {n : Nat} (hn : n = min xs.length ys.length) : Walk (RZ.ItzT K a b) n (fun H => SqT K H a xs ∧ SqT K H b ys) (YPair (fun i => xs[i]?) (fun i => ys[i]?)) := by
  subst hn
  refine ⟨fun i _ hi q => ?_, fun _ q => ⟨xs, ys, q.1, q.2, by omega⟩, fun i H v H' _ q y => ?_⟩
  · have h1 : i < xs.length := by omega
    have h2 : i < ys.length := by omega
    exact ⟨xs, ys, xs[i], ys[i], q.1, q.2, List.getElem?_eq_getElem h1, List.getElem?_eq_getElem h2⟩
  · obtain ⟨T, x, z, h1, h2, h3, h4, h5⟩ := y
    exact ⟨T, x, z, h1, h2, h3, h4 xs q.1, h5 ys q.2⟩
theorem kitA {K : PySem.W.Frag} {a b c : String} {r s : Bool} (h1 : kitB a b = some r) (h2 : kitB a c = some s) : PySem.W.kitAny K (.type a) [.type b, .type c] = some (r || s) := by
  refine kitAny_cons (kit_ty h1) (fun e => ?_) fun e => by rw [e]; rfl
  refine kitAny_cons (kit_ty h2) (fun e2 => ?_) fun e2 => by rw [e2, Bool.or_true]
  rw [e, e2]
  rfl
theorem ok_is0 (N : Free mg) {f : Addr} {fd : FuncData} (D : Def K mg "_law_is" sIs ["_law_told_here", "_law_due"] f fd) : Has P w K mg base CX0 "_law_is" 1 ["_law_told_here", "_law_due"] (spIs TwI) := by
  refine .of D (D.1.ok scIs (fun vs H Q E h => ?_) (fun cdv A outer s H vs Q E hr h => ?_))
  · obtain ⟨x, y, rfl, _⟩ := h
    rfl
  · obtain ⟨x, y, rfl, ⟨n, rfl, rfl⟩, q⟩ := h
    refine ⟨_, pss_cons (ps_if (pt_val (pe_callB call_isiT (by rfl) N.isinstance bt_isinstance (pa_cons (pv 1) (pa_cons (pe_tup (pa_cons (pe_bltn (v := .ty "tuple") (by rfl) N.tuple bt_tuple rfl) (pa_cons (pe_bltn (v := .ty "list") (by rfl) N.list bt_list rfl) pa_nil))) pa_nil)))) pss_never pss_nil)
      (pss_one (ps_ret (pe_and (pe_cmpR op_eq (pe_callB call_isi (by rfl) N.isinstance bt_isinstance (pa_cons (pv 0) (pa_cons (pe_bltn (v := .ty "bool") (by rfl) N.bool bt_bool rfl) pa_nil))) (pe_callB call_isi (by rfl) N.isinstance bt_isinstance (pa_cons (pv 1) (pa_cons (pe_bltn (v := .ty "bool") (by rfl) N.bool bt_bool rfl) pa_nil))) (nomark _))
        (pe_one (pe_cmpR op_eq (pv 0) (pv 1) (nomark _)))))), ?_⟩
    refine ⟨_, rfl, (by decide : 2 ≤ sizeLine), fun tp np => ⟨.int n, tp, _, .type "int", [.type "tuple", .type "list"], false, rfl, upd_same, .cons (.ty _) (.cons (.ty _) .nil), .base (.int n), kitA (r := false) (s := false) (by decide +kernel) (by decide +kernel), false, rfl, iteF ?_⟩⟩
    have s1 : Same H (upd H tp (.tup [.ty "tuple", .ty "list"])) := same_new np
    refine ⟨_, rfl, .int n, .ty "bool", .type "int", .type "bool", false, rfl, .ty _, .base (.int n), kit_ty (by decide +kernel), _, rfl, .int n, .ty "bool", .type "int", .type "bool", false, rfl, .ty _, .base (.int n), kit_ty (by decide +kernel), rfl, true, ?_, iteT ⟨_, rfl, _, rfl, rfl, ?_⟩⟩
    · rfl
    · have e : decide (V.int n = V.int n) = true := decide_eq_true rfl
      show Q (.bl (decide (V.int n = V.int n))) _
      rw [e]
      exact q _ s1
theorem ok_isS {R : V → V → Hp → Prop} {k : Nat} (N : Free mg) (mono : ∀ {x y : V} {H H' : Hp}, Same H H' → R x y H → R x y H') (GI : Has P w K mg base CX0 "_law_is" k ["_law_told_here", "_law_due"] (spIs R)) {f : Addr} {fd : FuncData} (D : Def K mg "_law_is" sIs ["_law_told_here", "_law_due"] f fd) :
    Has P w K mg base CX0 "_law_is" (k + 1) ["_law_told_here", "_law_due"] (spIs (TwT R)) := by
  refine .of D (D.1.ok scIs (fun vs H Q E h => ?_) (fun cdv A outer s H vs Q E hr h => ?_))
  · obtain ⟨x, y, rfl, _⟩ := h
    rfl
  · obtain ⟨x, y, rfl, ⟨a, b, xs, ys, rfl, rfl, ha, hb, hl, few, hR⟩, q⟩ := h
    have nd := scIs.nd
    refine ⟨_, pss_cons (ps_if (pt_val (pe_callB call_isiT (by rfl) N.isinstance bt_isinstance (pa_cons (pv 1) (pa_cons (pe_tup (pa_cons (pe_bltn (v := .ty "tuple") (by rfl) N.tuple bt_tuple rfl) (pa_cons (pe_bltn (v := .ty "list") (by rfl) N.list bt_list rfl) pa_nil))) pa_nil))))
        (pss_cons (ps_if (PW.pt (pw_or (pt_cmpR op_ne (pe_callB call_isi (by rfl) N.isinstance bt_isinstance (pa_cons (pv 0) (pa_cons (pe_bltn (v := .ty "tuple") (by rfl) N.tuple bt_tuple rfl) pa_nil))) (pe_callB call_isi (by rfl) N.isinstance bt_isinstance (pa_cons (pv 1) (pa_cons (pe_bltn (v := .ty "tuple") (by rfl) N.tuple bt_tuple rfl) pa_nil))) (nomark _))
            (pw_or1 (pt_not (pt_val (pe_callB call_isiT (by rfl) N.isinstance bt_isinstance (pa_cons (pv 0) (pa_cons (pe_tup (pa_cons (pe_bltn (v := .ty "tuple") (by rfl) N.tuple bt_tuple rfl) (pa_cons (pe_bltn (v := .ty "list") (by rfl) N.list bt_list rfl) pa_nil))) pa_nil)))))))) pss_never pss_nil)
        (pss_one (ps_ret (pe_and (pe_cmpR op_eq (pe_callB call_len_seq (by rfl) N.len bt_len (pa_cons (pv 0) pa_nil)) (pe_callB call_len_seq (by rfl) N.len bt_len (pa_cons (pv 1) pa_nil)) (nomark _))
          (pe_one (pe_callB (cr_all rfl) (by rfl) N.all bt_all (pa_cons (pe_lc (own := [("_law_one", 2), ("_law_two", 3)]) (g := gTup K 2 (gCons (gName 2) (gCons (gName 3) gNil))) (tt := tYes) rfl nd (RZ.pi_zipA (by rfl) N.zip (pa_cons (pv 0) (pa_cons (pv 1) pa_nil)))
            (blkOk_by (N := nIs) (sc := defScope sIs) (by decide +kernel)) (fun _ _ _ _ _ => pg_tup rfl (pgs_cons (pg_name (i := 2) nd rfl (.inl rfl)) (pgs_cons (pg_name (i := 3) nd rfl (.inl rfl)) pgs_nil))) (fun _ _ _ _ _ => pts_nil)
            (fun _ _ _ _ _ => pcall GI hr (pa_cons (pv 2) (pa_cons (pv 3) pa_nil)))) pa_nil))))))) pss_nil)
      pss_never, ?_⟩
    refine ⟨_, rfl, (by decide : 2 ≤ sizeLine), fun tp np => ⟨.ref b, tp, _, .type "tuple", [.type "tuple", .type "list"], true, rfl, upd_same, .cons (.ty _) (.cons (.ty _) .nil), .base (.tup (same_new np _ _ hb)), kitA (r := true) (s := false) (by decide +kernel) (by decide +kernel), true, rfl, iteT ?_⟩⟩
    have s1 : Same H (upd H tp (.tup [.ty "tuple", .ty "list"])) := same_new np
    generalize upd H tp (.tup [.ty "tuple", .ty "list"]) = H1 at s1
    have ha1 := s1 _ _ ha
    have hb1 := s1 _ _ hb
    refine ⟨_, rfl, .ref a, .ty "tuple", .type "tuple", .type "tuple", true, rfl, .ty _, .base (.tup ha1), kit_ty (by decide +kernel), _, rfl, .ref b, .ty "tuple", .type "tuple", .type "tuple", true, rfl, .ty _, .base (.tup hb1), kit_ty (by decide +kernel), rfl, _, rfl, iteNS rfl ?_⟩
    refine ⟨_, rfl, (by decide : 2 ≤ sizeLine), fun tp np => ⟨.ref a, tp, _, .type "tuple", [.type "tuple", .type "list"], true, rfl, upd_same, .cons (.ty _) (.cons (.ty _) .nil), .base (.tup (same_new np _ _ ha1)), kitA (r := true) (s := false) (by decide +kernel) (by decide +kernel), true, rfl, iteF ?_⟩⟩
    have s2 := s1.trans (same_new (o := .tup [.ty "tuple", .ty "list"]) np)
    generalize upd H1 tp (.tup [.ty "tuple", .ty "list"]) = H2 at s2
    have ha2 := s2 _ _ ha
    have hb2 := s2 _ _ hb
    refine ⟨_, rfl, a, xs, rfl, .inr (.inl (.inl ha2)), _, rfl, b, ys, rfl, .inr (.inl (.inl hb2)), rfl, true, ?_, iteT ?_⟩
    · rw [hl]
      exact congrArg V.bl (decide_eq_true rfl)
    refine ⟨_, rfl, _, rfl, a, b, xs, ys, rfl, .inr ⟨.inl (.inl ha2), .inl (.inl hb2), fun L nL => ?_⟩⟩
    refine lc_m (n := xs.length) (walk_zipT (K := K) (a := a) (b := b) (xs := xs) (ys := ys) (by omega)) (List.replicate xs.length (.bl true)) List.length_replicate (by rw [List.length_replicate]; exact few) nL (fun H' s => ⟨same_sqt s (.inl (.inl ha2)), same_sqt s (.inl (.inl hb2))⟩) (fun j x H3 H4 hj pp z => ?_) fun H3 s3 e => ⟨L, List.replicate xs.length true, rfl, .inl (.inl ?_), ?_⟩
    · obtain ⟨T, u, v, rfl, nT, rfl, e1, e2⟩ := z
      have sT : Same H3 (upd H3 T (.tup [u, v])) := same_new nT
      refine ⟨T, [u, v], rfl, .inl (.inl upd_same), rfl, _, _, rfl, _, _, rfl, rfl, rfl, yes (iteT ?_)⟩
      exact ⟨_, rfl, _, rfl, u, v, rfl, mono ((s2.trans pp.same).trans sT) (hR j u v e1 e2), fun H5 s5 => pp.fin (sT.trans s5) (rep_at hj)⟩
    · rw [rep_bl]
      exact e
    · rw [all_true]
      exact q H3 (s2.trans s3)
end
end K81
namespace K81
open PySem PySem.Spec PyProof.Rows L2
/-! ### tuples of ints as data -/
def pd (ns : List Int) : PyData := .tuple (ns.map PyData.int)
theorem pd_lay : ∀ ns : List Int, PyData.canLayAll0 (ns.map PyData.int) = true
  | [] => rfl
  | n :: ns => by
    show (PyData.canLay0 (.int n) && PyData.canLayAll0 (ns.map PyData.int)) = true
    rw [pd_lay ns]
    rfl
theorem pd_deep : ∀ ns : List Int, PyData.depthAll (ns.map PyData.int) ≤ 1
  | [] => by decide
  | n :: ns => by
    have ih := pd_deep ns
    show max (PyData.depth (.int n)) (PyData.depthAll (ns.map PyData.int)) ≤ 1
    have : PyData.depth (.int n) = 0 := by rw [PyData.depth]
    omega
theorem pd_shaped (ns : List Int) : SeqAt.shaped (pd ns) = true := by
  unfold SeqAt.shaped
  have a : (pd ns).canLay0 = true := pd_lay ns
  have b : (pd ns).depth ≤ 64 := by
    have := pd_deep ns
    show PyData.depth (.tuple (ns.map PyData.int)) ≤ 64
    rw [PyData.depth]
    omega
  rw [a, decide_eq_true b]
  rfl
theorem pd_eqv (ns : List Int) : PyData.eqv (pd ns) (pd ns) = true := SeqAt.eqv_refl _ (pd_lay ns)
theorem pd_all {K : PySem.W.Frag} {H : Hp} : ∀ ns : List Int, DpAll K H (ns.map V.int) (ns.map PyData.int)
  | [] => .nil
  | n :: ns => .cons (.int n) (pd_all ns)
theorem pd_at {K : PySem.W.Frag} {H : Hp} {a : Addr} {ns : List Int} (h : H a = some (Tp ns)) : Dp K H (.ref a) (pd ns) := .tup (.inl (.inl h)) (pd_all ns)
theorem eqD {K : PySem.W.Frag} {H : Hp} {a b : Addr} {ns : List Int} {Q : VK} (ha : H a = some (Tp ns)) (hb : H b = some (Tp ns)) (q : Q (.bl true) H) : rEqD K (.ref a) (.ref b) H Q :=
  ⟨pd ns, pd ns, pd_at ha, pd_at hb, pd_shaped ns, pd_shaped ns, by rw [pd_eqv]; exact q⟩
theorem neD {K : PySem.W.Frag} {H : Hp} {a b : Addr} {ns : List Int} {Q : VK} (ha : H a = some (Tp ns)) (hb : H b = some (Tp ns)) (q : Q (.bl false) H) : rNeD K (.ref a) (.ref b) H Q :=
  ⟨pd ns, pd ns, pd_at ha, pd_at hb, pd_shaped ns, pd_shaped ns, by rw [pd_eqv]; exact q⟩
/-- the lengths of a heap can be sorted -/
theorem srt_ex {ks : List Int} (nd : ks.Nodup) : ∃ ls, Srt ls ks := by
  have p := List.mergeSort_perm ks (fun a b => decide (a ≤ b))
  have s := List.pairwise_mergeSort (le := fun a b : Int => decide (a ≤ b)) (fun a b c h1 h2 => by simp at *; omega) (fun a b => by simp; omega) ks
  have n : (ks.mergeSort fun a b => decide (a ≤ b)).Nodup := p.symm.nodup nd
  refine ⟨_, p, (s.and n).imp fun h => ?_⟩
  have := of_decide_eq_true h.1
  have := h.2
  omega
/-! ### the great heap -/
def ksG (s : Int) : List Int := [1, s, s ^ 2, s ^ 3, s ^ 4, s ^ 5, s ^ 6, s ^ 7]
structure GreatOk (s : Int) : Prop where
  up : (ksG s).Pairwise (fun a b => a < b)
  goes : (ksG s).Pairwise (fun a b => a ∣ b)
  pos : ∀ k ∈ ksG s, 1 ≤ k
  top : ∀ k ∈ ksG s, k ≤ 1000000
theorem great2 : GreatOk 2 := ⟨by decide, by decide, by decide, by decide⟩
theorem great3 : GreatOk 3 := ⟨by decide, by decide, by decide, by decide⟩
theorem great4 : GreatOk 4 := ⟨by decide, by decide, by decide, by decide⟩
theorem great_of {d : Int} (h0 : 0 ≤ d) (h1 : d < 3) : GreatOk (2 + d) := by
  have : d = 0 ∨ d = 1 ∨ d = 2 := by omega
  rcases this with rfl | rfl | rfl
  · exact great2
  · exact great3
  · exact great4
theorem prs_val_no {qs : List (Int × Int)} {k : Int} (h : k ∉ qs.map (·.1)) : valV (prs qs) (Sum.inl k) = none := by
  cases e : valV (prs qs) (Sum.inl k) with
  | none => rfl
  | some v =>
    have m := valV_in e
    unfold prs at m
    rw [List.map_map] at m
    obtain ⟨x, hx, ex⟩ := List.mem_map.mp m
    exact absurd (List.mem_map.mpr ⟨x, hx, Sum.inl.inj ex⟩) h
theorem prs_put {qs : List (Int × Int)} {k d : Int} (h : k ∉ qs.map (·.1)) : putK (prs qs) (Sum.inl k) (.int d) = prs (qs ++ [(k, d)]) := by
  rw [putK_new _ (prs_val_no h)]
  unfold prs
  rw [List.map_append]
  rfl
theorem tens {d : Int} (h0 : 0 ≤ d) (h1 : d < 3) : ∃ v : Int, atI [V.int 10, V.int (10 ^ (4 : Int).toNat), V.int (10 ^ (8 : Int).toNat)] d = some (V.int v) ∧ 1 ≤ v ∧ v ≤ 100000000 := by
  have : d = 0 ∨ d = 1 ∨ d = 2 := by omega
  rcases this with rfl | rfl | rfl
  · exact ⟨10, rfl, by decide, by decide⟩
  · exact ⟨10 ^ (4 : Int).toNat, rfl, by decide, by decide⟩
  · exact ⟨10 ^ (8 : Int).toNat, rfl, by decide, by decide⟩
section
variable {P : Program} {w : World} {K : PySem.W.Frag} {mg : Str → Option Value} {base : Heap}
abbrev sLaw : Stmt := topS 43
abbrev nLaw : List Str := ["_law_script", "_law_hand_here", "_law_turn", "_law_heap_here", "_law_windows_here", "_law_told_here", "_law_most", "_law_step", "_law_great", "_law_length", "_law_k"]
theorem scLaw : FnScope nLaw ["_law_script"] (defScope sLaw) := ⟨rfl, rfl, rfl, by decide +kernel, rfl, by decide +kernel, by decide +kernel⟩
def spLaw (K : PySem.W.Frag) : Sp := fun vs H Q _ => ∃ (a : Addr) (ns : List Int), vs = [.ref a] ∧ SqL K H a (ns.map V.int) ∧ ns.length ≤ 63 ∧ ∀ H', Q (.bl true) H'
theorem twice {H : Hp} {p q m b mo le : Addr} {ms bs : List Int} (hp : H p = some (.tup [.ref m, .ref b])) (hq : H q = some (.tup [.ref mo, .ref le])) (h1 : H m = some (Tp ms)) (h2 : H b = some (Tp bs)) (h3 : H mo = some (Tp ms)) (h4 : H le = some (Tp bs))
    (f1 : ms.length ≤ 1000) (f2 : bs.length ≤ 1000) : TwT (TwT TwI) (.ref p) (.ref q) H := by
  have tw : ∀ {a c : Addr} {ns : List Int}, H a = some (Tp ns) → H c = some (Tp ns) → ns.length ≤ 1000 → TwT TwI (.ref a) (.ref c) H := fun {a c ns} ha hc f => by
    refine ⟨a, c, _, _, rfl, rfl, ha, hc, rfl, by rw [List.length_map]; exact f, fun i u v e1 e2 => ?_⟩
    obtain ⟨n, e3, rfl⟩ := ints_at e1
    obtain ⟨n', e4, rfl⟩ := ints_at e2
    rw [e3] at e4
    cases e4
    exact ⟨n, rfl, rfl⟩
  refine ⟨p, q, _, _, rfl, rfl, hp, hq, rfl, (by decide : 2 ≤ 1000), fun i u v e1 e2 => ?_⟩
  match i, e1, e2 with
  | 0, e1, e2 =>
    cases e1
    cases e2
    exact tw h1 h3 f1
  | 1, e1, e2 =>
    cases e1
    cases e2
    exact tw h2 h4 f2
  | i + 2, e1, _ => cases e1
theorem TwI.mono {x y : V} {H H' : Hp} (_ : Same H H') (h : TwI x y H) : TwI x y H' := h
theorem TwT.mono {R : V → V → Hp → Prop} (m : ∀ {x y : V} {H H' : Hp}, Same H H' → R x y H → R x y H') {x y : V} {H H' : Hp} (s : Same H H') (h : TwT R x y H) : TwT R x y H' := by
  obtain ⟨a, b, xs, ys, e1, e2, ha, hb, l, f, r⟩ := h
  exact ⟨a, b, xs, ys, e1, e2, s _ _ ha, s _ _ hb, l, f, fun i u v p q => m s (r i u v p q)⟩
theorem ok_law {C : Addr} (N : Free mg) (GHand : Has P w K mg base CX0 "_law_hand" 1 ["_law_script"] (spHand K)) (GD : Has P w K mg base CX0 "_law_draw" 1 ["_law_hand_here", "_law_many"] spDraw) (GHeap : Has P w K mg base CX0 "_law_heap" 3 ["_law_hand_here"] spLHeap)
    (GWin : Has P w K mg base CX0 "_law_windows" 2 ["_law_hand_here", "_law_heap_here"] spLWin) (GTold : Has P w K mg base CX0 "_law_told" 7 ["_law_heap_here", "_law_windows_here"] spTold) (GGo : Has P w K mg base CX0 "_law_go" 1 ["_law_heap_here"] spGo)
    (GEach : Has P w K mg base CX0 "_law_each" 1 ["_law_heap_here", "_law_windows_here"] spEach) (GIs : Has P w K mg base CX0 "_law_is" 3 ["_law_told_here", "_law_due"] (spIs (TwT (TwT TwI)))) (GLens : Has P w K mg base CX0 "_law_lengths" 2 ["_law_heap_here", "_law_windows_here", "_law_most"] spLens)
    (GFirst : Has P w K mg base CX0 "longest_first" 5 ["heap", "windows"] spFirst) (GDone : Has P w K mg base CX0 "done_in" 5 ["heap", "windows", "thing"] spDone) (GMost : Has P w K mg base (L2.CX P w) "most_done" 6 ["heap", "windows"] (spOf C dones)) (GBound : Has P w K mg base (L2.CX P w) "bound_by" 6 ["heap", "windows"] (spOf C lens))
    {f : Addr} {fd : FuncData} (D : Def K mg "law" sLaw ["_law_script"] f fd) : FnOk P w K mg base CX0 8 f fd ["_law_script"] (spLaw K) := by
  refine D.1.ok scLaw (fun vs H Q E h => ?_) (fun cdv A outer s H vs Q E hr h => ?_)
  · obtain ⟨a, ns, rfl, _⟩ := h
    rfl
  · obtain ⟨a, ns, rfl, hS, few, q⟩ := h
    have nd := scLaw.nd
    refine ⟨_, pss_cons (ps_set (i := 1) nd rfl (.inr rfl) (pcall GHand (hr.mono (by decide)) (pa_cons (pv 0) pa_nil)))
      (pss_cons (ps_for PassesOwn.never rfl (pi_range1 (by rfl) N.range (pa_cons pe_int pa_nil)) (pg_name (i := 2) nd rfl (.inl rfl))
      (pss_cons (ps_set (i := 3) nd rfl (.inl rfl) (pcall GHeap (hr.mono (by decide)) (pa_cons (pv 1) pa_nil)))
      (pss_cons (ps_set (i := 4) nd rfl (.inl rfl) (pcall GWin (hr.mono (by decide)) (pa_cons (pv 1) (pa_cons (pv 3) pa_nil))))
      (pss_cons (ps_set (i := 5) nd rfl (.inl rfl) (pcall GTold (hr.mono (by decide)) (pa_cons (pv 3) (pa_cons (pv 4) pa_nil))))
      (pss_cons (ps_if (pt_cmpR op_ne (pe_cmp (pc_notN (pv 5)) rfl) (pcall GGo (hr.mono (by decide)) (pa_cons (pv 3) pa_nil)) (nomark _))
      pss_never pss_nil)
      (pss_one (ps_if (pt_cmpR op_notN (pv 5) pe_non (nomark _))
      (pss_cons (ps_set (i := 6) nd rfl (.inl rfl) (pe_callTy call_tuple_of (by rfl) N.tuple bt_tuple (pa_cons (pcall GEach (hr.mono (by decide)) (pa_cons (pv 3) (pa_cons (pv 4) pa_nil))) pa_nil)))
      (pss_cons (ps_if (pt_not (pt_val (pcall GIs (hr.mono (by decide)) (pa_cons (pv 5) (pa_cons (pe_tup (pa_cons (pv 6) (pa_cons (pcall GLens (hr.mono (by decide)) (pa_cons (pv 3) (pa_cons (pv 4) (pa_cons (pv 6) pa_nil)))) pa_nil))) pa_nil)))))
      pss_never pss_nil)
      (pss_one (ps_if (pt_cmpR (op_neD hr.units) (pcall GDone (hr.mono (by decide)) (pa_cons (pv 3) (pa_cons (pv 4) (pa_cons (pcall GFirst (hr.mono (by decide)) (pa_cons (pv 3) (pa_cons (pv 4) pa_nil))) pa_nil)))) (pv 6) (nomark _))
      pss_never pss_nil)))) pss_nil)))))))
      (pss_cons (ps_set (i := 7) nd rfl (.inl rfl) (pe_op op_add pe_int (pcall GD (hr.mono (by decide)) (pa_cons (pv 1) (pa_cons pe_int pa_nil)))))
      (pss_cons (ps_set (i := 8) nd rfl (.inl rfl) pe_dnewK)
      (pss_cons (ps_for PassesOwn.never rfl (pi_list (pe_lst (pa_cons pe_int (pa_cons (pv 7) (pa_cons (pe_op op_pow (pv 7) pe_int) (pa_cons (pe_op op_pow (pv 7) pe_int) (pa_cons (pe_op op_pow (pv 7) pe_int) (pa_cons (pe_op op_pow (pv 7) pe_int) (pa_cons (pe_op op_pow (pv 7) pe_int) (pa_cons (pe_op op_pow (pv 7) pe_int) pa_nil)))))))))) (pg_name (i := 9) nd rfl (.inl rfl))
      (pss_one (ps_dput (hu_of hr) (pv 8) (pv 9) (pcall GD (hr.mono (by decide)) (pa_cons (pv 1) (pa_cons (pe_op op_pow pe_int pe_int) pa_nil))) rfl)))
      (pss_cons (ps_set (i := 4) nd rfl (.inl rfl) (pe_callTy call_tuple_of (by rfl) N.tuple bt_tuple (pa_cons (pe_lc (own := [("_law_k", 10)]) (g := gName 10) (tt := tYes) rfl nd (pi_range1 (by rfl) N.range (pa_cons pe_int pa_nil)) (blkOk_by (N := nLaw) (sc := defScope sLaw) (by decide +kernel))
        (fun _ _ _ _ _ => (pg_name (i := 10) nd rfl (.inl rfl))) (fun _ _ _ _ _ => pts_nil) (fun _ _ _ _ _ => (pcall GD (hr.mono (by decide)) (pa_cons (pv 1) (pa_cons (pe_ix (ix_listK K rfl) (pe_lst (pa_cons pe_int (pa_cons (pe_op op_pow pe_int pe_int) (pa_cons (pe_op op_pow pe_int pe_int) pa_nil)))) (pcall GD (hr.mono (by decide)) (pa_cons (pv 1) (pa_cons pe_int pa_nil))) (fun _ _ => rfl)) pa_nil))))) pa_nil)))
      (pss_cons (ps_set (i := 6) nd rfl (.inl rfl) (pcall GDone (hr.mono (by decide)) (pa_cons (pv 8) (pa_cons (pv 4) (pa_cons (pcall GFirst (hr.mono (by decide)) (pa_cons (pv 8) (pa_cons (pv 4) pa_nil))) pa_nil)))))
      (pss_one (ps_ret (pe_and (pe_cmpR (op_eqD hr.units) (pv 6) (pcallX GMost (hr.mono (by decide)) passL (pa_cons (pv 8) (pa_cons (pv 4) pa_nil))) (nomark _)) (pe_one (pe_cmpR (op_eqD hr.units) (pcallX GBound (hr.mono (by decide)) passL (pa_cons (pv 8) (pa_cons (pv 4) pa_nil))) (pcall GLens (hr.mono (by decide)) (pa_cons (pv 8) (pa_cons (pv 4) (pa_cons (pv 6) pa_nil)))) (nomark _)))))))))))), ?_⟩
    refine ⟨_, rfl, a, ns, rfl, hS, few, fun H1 h c s1 n1 hh => ?_⟩
    refine ⟨3, rfl, by decide, by decide, for_range (n := 3) (fun i σ H' => ∃ x2 x3 x4 x5 x6, σ = [some (.ref a), some (.ref h), x2, x3, x4, x5, x6, none, none, none, none] ∧ Hand H' h c) ⟨none, none, none, none, none, rfl, hh⟩ ?_ ?_⟩
    · rintro i σ H' hi ⟨x2, x3, x4, x5, x6, rfl, hd⟩
      refine ⟨_, rfl, h, c, rfl, hd, fun H2 d ks f k2 h2 nd2 ed sm => ?_⟩
      have dh := hd.nf nd2
      refine ⟨_, rfl, _, rfl, h, c, d, ks, f, rfl, h2, ed, sm, fun H3 t ws k3 h3 nt et wl wb => ?_⟩
      have ed3 := k3 _ _ dh ed
      have ok := sm.ok
      have few4 := sm.few
      have wo : WinOk ws := ⟨by omega, fun w hw => (wb w hw).1, fun w hw => by have := (wb w hw).2; omega⟩
      obtain ⟨ls, sr⟩ := srt_ex sm.nd
      refine ⟨_, rfl, _, rfl, d, ks, f, t, ws, ls, rfl, ed3, ok, et, wo, sr, fun ng H4 s4 => ?_, fun g H4 p m b s4 ep em eb => ?_⟩
      · refine ⟨_, rfl, _, rfl, d, ks, f, ls, rfl, s4 _ _ ed3, sr, by omega, sm.one, sm.pos, fun g => absurd g ng, fun _ H5 s5 => ⟨rfl, _, rfl, iteNS rfl ?_⟩⟩
        refine ⟨_, rfl, rfl, _, rfl, iteNS rfl ?_⟩
        exact ⟨_, _, _, _, _, rfl, (h3.same s4).same s5⟩
      · refine ⟨_, rfl, _, rfl, d, ks, f, ls, rfl, s4 _ _ ed3, sr, by omega, sm.one, sm.pos, fun _ H5 s5 => ⟨rfl, _, rfl, iteNS rfl ?_⟩, fun ng => absurd g ng⟩
        refine ⟨_, rfl, rfl, _, rfl, ite2 (fun _ => ?_) fun z => absurd rfl z⟩
        have sA := s4.trans s5
        refine ⟨_, rfl, _, rfl, d, ks, f, t, ws, ls, rfl, sA _ _ ed3, sm, sA _ _ et, wo, sr, g, fun H6 l s6 nl el => ⟨l, _, rfl, .inl ⟨.inl (.inl el), fun mo nmo => ?_⟩⟩⟩
        have sB := (sA.trans s6).trans (same_new (o := .tup ((dones ls f ws).map V.int)) nmo)
        have emo : (upd H6 mo (.tup ((dones ls f ws).map V.int))) mo = some (Tp (dones ls f ws)) := upd_same
        have pB := fun (b : Addr) o (z : H4 b = some o) => same_new (o := .tup ((dones ls f ws).map V.int)) nmo _ _ (s6 _ _ (s5 _ _ z))
        generalize upd H6 mo (.tup ((dones ls f ws).map V.int)) = HB at sB emo pB
        have dl : (dones ls f ws).length = ws.length := tab_len ..
        have bl : (lens ls f ws).length = ws.length := tab_len ..
        refine ⟨_, rfl, _, rfl, _, rfl, _, rfl, _, rfl, d, ks, f, t, ws, mo, ls, rfl, sB _ _ ed3, ok, sB _ _ et, wo, sr, g, emo, fun H8 le s8 nle ele => ⟨(by decide : 2 ≤ sizeLine), fun tt ntt => ?_⟩⟩
        have sT := s8.trans (same_new (o := .tup [.ref mo, .ref le]) ntt)
        refine ⟨.ref p, .ref tt, rfl, twice (sT _ _ (pB _ _ ep)) upd_same (sT _ _ (pB _ _ em)) (sT _ _ (pB _ _ eb)) (sT _ _ emo) (same_new ntt _ _ ele) (by omega) (by omega), fun H9 s9 => ⟨true, rfl, iteF ?_⟩⟩
        have sC := (sB.trans sT).trans s9
        have emo9 := s9 _ _ (sT _ _ emo)
        refine ⟨_, rfl, _, rfl, _, rfl, _, rfl, d, ks, f, t, ws, ls, rfl, sC _ _ ed3, ok, sC _ _ et, wo, sr, fun H10 u es s10 nu eu len fl fr => ?_⟩
        have sD := sC.trans s10
        refine ⟨d, ks, f, t, ws, u, es, ls, rfl, sD _ _ ed3, ok, sD _ _ et, wo, eu, len, sr, fl, fun e he z => ?_, fun H11 dn s11 ndn edn => ?_⟩
        · have y := fr e he
          rw [z, sC _ _ ed3] at y
          cases y
        · refine ⟨_, rfl, neD edn (s11 _ _ (s10 _ _ emo9)) ⟨false, rfl, iteF ?_⟩⟩
          exact ⟨_, _, _, _, _, rfl, h3.same (sD.trans s11)⟩
    · rintro σ H' ⟨x2, x3, x4, x5, x6, rfl, hd⟩
      -- the step
      refine ⟨_, rfl, h, c, 3, rfl, hd, by decide, by decide, fun H2 d2 k2 h2 a0 a1 => ⟨_, _, rfl, rfl, ?_⟩⟩
      have gok := great_of a0 a1
      have sb : (2 + d2).natAbs < 2 ^ 64 := by omega
      -- great = {}
      refine fun gr ngr => ?_
      have nga := h2.nf ngr
      have ngc := h2.nc ngr
      have h3 := h2.up (o := .dK []) nga ngc
      have eg3 : (upd H2 gr (.dK [])) gr = some (.dK (prs [])) := upd_same
      generalize upd H2 gr (.dK []) = H3 at h3 eg3
      refine ⟨_, rfl, _, rfl, _, _, rfl, rfl, ⟨by decide, by decide, sb⟩, _, rfl, _, _, rfl, rfl, ⟨by decide, by decide, sb⟩, _, rfl, _, _, rfl, rfl, ⟨by decide, by decide, sb⟩, _, rfl, _, _, rfl, rfl, ⟨by decide, by decide, sb⟩, _, rfl, _, _, rfl, rfl, ⟨by decide, by decide, sb⟩,
        _, rfl, _, _, rfl, rfl, ⟨by decide, by decide, sb⟩, (by decide : 8 ≤ sizeLine), fun L nL => ?_⟩
      have nLh := h3.nf nL
      have nLc := h3.nc nL
      have ngL := ne_of_none eg3 nL
      have kl : (ksG (2 + d2)).length = 8 := rfl
      refine ⟨L, rfl, ⟨_, .inl (.inl upd_same)⟩, for_list (K := K) (a := L) (xs := (ksG (2 + d2)).map V.int) (fun i σ H' => ∃ x9 qs, σ = [some (.ref a), some (.ref h), x2, x3, x4, x5, x6, some (.int (2 + d2)), some (.ref gr), x9, none] ∧ Hand H' h c ∧ H' L = some (Ls (ksG (2 + d2))) ∧ H' gr = some (.dK (prs qs)) ∧
          qs.map (·.1) = (ksG (2 + d2)).take i ∧ ∀ y ∈ qs, 0 ≤ y.2 ∧ y.2 ≤ 1000000)
        ⟨none, [], rfl, h3.up nLh nLc, upd_same, relock eg3 ngL, rfl, fun y hy => (List.not_mem_nil hy).elim⟩ (fun i σ H' _ ⟨_, _, _, _, e, _⟩ => .inl (.inl e)) ?_ ?_⟩
      · rintro i x σ H4 hx ⟨x9, qs, rfl, hd4, eL, eg, ek, bd⟩
        obtain ⟨k, hk, rfl⟩ := ints_at hx
        have hi : i < 8 := by
          have := (List.getElem?_eq_some_iff.mp hk).1
          omega
        refine ⟨_, rfl, _, _, rfl, rfl, ⟨by decide, by decide, by decide⟩, h, c, 10 ^ (6 : Int).toNat, rfl, hd4, by decide, by decide, fun H5 d5 k5 h5 b0 b1 => ?_⟩
        have b1 : d5 < 1000000 := b1
        have eg5 := k5 _ _ nga eg
        have eL5 := k5 _ _ nLh eL
        have nk : k ∉ qs.map (·.1) := by
          rw [ek]
          exact nd_take (up_nodup gok.up) hk
        have ql : qs.length ≤ 8 := by
          have := congrArg List.length ek
          rw [List.length_map, List.length_take] at this
          omega
        refine ⟨_, rfl, _, rfl, gr, _, rfl, DPut.k (k := Sum.inl k) eg5 (by unfold prs; rw [List.length_map]; exact small1000 (by omega)), ?_⟩
        rw [prs_put nk]
        refine ⟨some (.int k), qs ++ [(k, d5)], rfl, h5.up nga ngc, relock eL5 ngL.symm, upd_same, ?_, fun y hy => ?_⟩
        · rw [List.map_append, ek, take_at hk]
          rfl
        · rcases List.mem_append.mp hy with z | z
          · exact bd y z
          · rw [List.mem_singleton.mp z]
            exact ⟨b0, by show d5 ≤ 1000000; omega⟩
      · rintro σ H4 ⟨x9, qs, rfl, hd4, _, eg, ek, bd⟩
        have ek : qs.map (·.1) = ksG (2 + d2) := ek
        have nk := up_nodup gok.up
        have edk : H4 gr = some (Dk (ksG (2 + d2)) (ofPairs qs)) := by
          rw [eg, prs_ents (by rw [ek]; exact nk), ek]
          rfl
        have of : ∀ k ∈ ksG (2 + d2), 0 ≤ ofPairs qs k ∧ ofPairs qs k ≤ 1000000 := fun k hk => by
          rw [← ek] at hk
          obtain ⟨y, hy, rfl⟩ := List.mem_map.mp hk
          rw [ofPairs_mem (by rw [ek]; exact nk) hy]
          exact bd y hy
        generalize ofPairs qs = F at edk of
        have ok : HeapOk (ksG (2 + d2)) F := ⟨by rw [kl]; decide, by rw [kl]; decide, nk, gok.pos, gok.top, fun k hk => (of k hk).1, fun k hk => (of k hk).2⟩
        have sr : Srt (ksG (2 + d2)) (ksG (2 + d2)) := ⟨.refl _, gok.up⟩
        have G : Goes (ksG (2 + d2)) := gok.goes
        generalize ksG (2 + d2) = ks at edk ok sr G
        -- the windows
        refine ⟨40, rfl, by decide, by decide, fun M nM => ?_⟩
        have nMh := hd4.nf nM
        have nMc := hd4.nc nM
        refine lc_it (n := 40) walk_range (fun j H' => Kept h H4 H' ∧ Hand H' h c ∧ ∃ ws, ws.length = j ∧ H' M = some (Ls ws) ∧ ∀ w ∈ ws, 0 ≤ w ∧ w ≤ 1000000000)
          ⟨(Kept.refl h H4).fresh nM, hd4.up nMh nMc, [], rfl, upd_same, fun w hw => (List.not_mem_nil hw).elim⟩ (fun _ _ _ _ => True.intro) ?_ ?_
        · rintro j x H5 H5' hj ⟨k5, h5, ws, wl, eM, wb⟩ ⟨rfl, rfl⟩
          refine ⟨rfl, yes (iteT ?_)⟩
          refine ⟨_, rfl, _, _, rfl, rfl, ⟨by decide, by decide, by decide⟩, _, _, rfl, rfl, ⟨by decide, by decide, by decide⟩, (by decide : 3 ≤ sizeLine), fun L6 n6 => ?_⟩
          have n6h := h5.nf n6
          have h6 := h5.up (o := .lst [.int 10, .int (10 ^ (4 : Int).toNat), .int (10 ^ (8 : Int).toNat)]) n6h (h5.nc n6)
          refine ⟨_, rfl, h, c, 3, rfl, h6, by decide, by decide, fun H7 d7 k7 h7 c0 c1 => ?_⟩
          obtain ⟨v, ev, v1, v2⟩ := tens c0 c1
          have e6 := k7 _ _ n6h (upd_same (H := H5') (a := L6) (o := .lst [.int 10, .int (10 ^ (4 : Int).toNat), .int (10 ^ (8 : Int).toNat)]))
          refine ⟨L6, _, d7, .int v, rfl, rfl, .inl (.inl e6), ev, h, c, v, rfl, h7, v1, by omega, fun H8 d8 k8 h8 f0 f1 => ?_⟩
          have kk := ((Kept.of (h := h) (same_new (o := .lst [.int 10, .int (10 ^ (4 : Int).toNat), .int (10 ^ (8 : Int).toNat)]) n6)).trans k7).trans k8
          have eM8 := kk _ _ nMh eM
          refine ⟨_, eM8, ?_, (k5.trans kk).fresh nM, h8.up nMh nMc, ws ++ [d8], by rw [List.length_append, wl]; rfl, ?_, fun w hw => ?_⟩
          · rw [List.length_map]
            exact small1000 (by omega)
          · rw [upd_same]
            unfold Ls
            rw [List.map_append]
            rfl
          · rcases List.mem_append.mp hw with z | z
            · exact wb w z
            · rw [List.mem_singleton.mp z]
              omega
        · rintro H5 ⟨k5, h5, ws, wl, eM, wb⟩
          refine ⟨M, _, rfl, .inl ⟨.inl (.inl eM), fun t nt => ?_⟩⟩
          have eg5 := same_new (o := .tup (ws.map V.int)) nt _ _ (k5 _ _ nga edk)
          have et : (upd H5 t (.tup (ws.map V.int))) t = some (Tp ws) := upd_same
          generalize upd H5 t (.tup (ws.map V.int)) = H6 at eg5 et
          have wo : WinOk ws := ⟨by omega, fun w hw => (wb w hw).1, fun w hw => (wb w hw).2⟩
          refine ⟨_, rfl, _, rfl, _, rfl, _, rfl, gr, ks, F, t, ws, ks, rfl, eg5, ok, et, wo, sr, fun H10 u es s10 nu eu len fl fr => ?_⟩
          refine ⟨gr, ks, F, t, ws, u, es, ks, rfl, s10 _ _ eg5, ok, s10 _ _ et, wo, eu, len, sr, fl, fun e he z => ?_, fun H11 dn s11 ndn edn => ?_⟩
          · have y := fr e he
            rw [z, eg5] at y
            cases y
          have sA := s10.trans s11
          refine ⟨_, rfl, _, rfl, _, rfl, gr, ks, F, t, ws, ks, rfl, sA _ _ eg5, ok, sA _ _ et, wo, sr, fun ng => absurd G ng, fun _ H12 m12 s12 n12 e12 => eqD (s12 _ _ edn) e12 ⟨true, rfl, iteT ?_⟩⟩
          have sB := sA.trans s12
          refine ⟨_, rfl, _, rfl, gr, ks, F, t, ws, ks, rfl, sB _ _ eg5, ok, sB _ _ et, wo, sr, fun ng => absurd G ng, fun _ H13 b13 s13 n13 e13 => ?_⟩
          have sC := sB.trans s13
          exact ⟨_, rfl, _, rfl, _, rfl, gr, ks, F, t, ws, dn, ks, rfl, sC _ _ eg5, ok, sC _ _ et, wo, sr, G, s13 _ _ (s12 _ _ edn), fun H14 l14 s14 n14 e14 => eqD (s14 _ _ e13) e14 (q H14)⟩
end
end K81
section
open PySem PySem.W PyProof.Rows
set_option maxRecDepth 100000 in
set_option maxHeartbeats 0 in
open_top k81head for PySem.Challenge.rw_busyfloor_k81_whole_most_done_and_its_bo
end
namespace K81
open PySem PySem.Spec PyProof.Rows L2
theorem TwT2.mono {x y : V} {H H' : Hp} (s : Same H H') (h : TwT TwI x y H) : TwT TwI x y H' := TwT.mono (R := TwI) (fun s h => TwI.mono s h) s h
/-- an error of the class is what «except NotInOne» names -/
theorem own_self {K : PySem.W.Frag} {S : Addr} (h1 : PySem.W.subIn K (.ref S) (.type "BaseException") = some true) (h2 : PySem.W.isClsIn K S = true) (h3 : PySem.W.typeIn K (.ref S) = some (.type "type")) (h4 : PySem.W.subIn K (.ref S) (.ref S) = some true) :
    PySem.W.exmOne K (.ref S) (.ref S) = some true := by
  have e1 : (PySem.W.subIn K (.ref S) (.type "BaseException") == some true) = true := by
    rw [h1]
    rfl
  have e2 : ((PySem.W.clsIn K S).isSome && PySem.W.typeIn K (.ref S) == some (.type "type")) = true := by
    have e3 : (PySem.W.clsIn K S).isSome = true := h2
    rw [e3, h3]
    rfl
  show (if (PySem.W.subIn K (.ref S) (.type "BaseException") == some true) = true then (if ((PySem.W.clsIn K S).isSome && PySem.W.typeIn K (.ref S) == some (.type "type")) = true then PySem.W.subIn K (.ref S) (.ref S) else none) else none) = some true
  rw [if_pos e1, if_pos e2]
  exact h4
theorem all_mk {l : PySem.W.OpenLaw} {w : World} {K : PySem.W.Frag} {h : Heap} {mg : Str → Option Value} {fa C : Addr} (X : K.In h) (G : h.Ns mainGlobals mg) (hfa : mg "law" = some (.ref fa))
    {f0 f1 f2 f3 f4 f5 f6 f7 f8 f9 f10 f11 f12 f13 f14 f15 f16 f17 f18 f19 f20 f21 f22 f23 f24 f25 f26 f27 f28 f29 : Addr} {od0 an0 od1 an1 od2 an2 od3 an3 od4 an4 od5 an5 od6 an6 od7 an7 od8 an8 od9 an9 od10 an10 od11 an11 od12 an12 od13 an13 od14 an14 od15 an15 od16 an16 od17 an17 od18 an18 od19 an19 od20 an20 od21 an21 od22 an22 od23 an23 od24 an24 od25 an25 od26 an26 od27 an27 od28 an28 od29 an29 : Option Addr} {sl0 sl1 sl2 sl3 sl4 sl5 sl6 sl7 sl8 sl9 sl10 sl11 sl12 sl13 sl14 sl15 sl16 sl17 sl18 sl19 sl20 sl21 sl22 sl23 sl24 sl25 sl26 sl27 sl28 sl29 : Array (Option Value)}
    {oc0 kV0 dc0 pm0 cd0 ct0 oc1 kV1 dc1 pm1 cd1 ct1 oc2 kV2 dc2 pm2 cd2 ct2 oc3 kV3 dc3 pm3 cd3 ct3 oc4 kV4 dc4 pm4 cd4 ct4 oc5 kV5 dc5 pm5 cd5 ct5 oc6 kV6 dc6 pm6 cd6 ct6 oc7 kV7 dc7 pm7 cd7 ct7 oc8 kV8 dc8 pm8 cd8 ct8 oc9 kV9 dc9 pm9 cd9 ct9 oc10 kV10 dc10 pm10 cd10 ct10 oc11 kV11 dc11 pm11 cd11 ct11 oc12 kV12 dc12 pm12 cd12 ct12 oc13 kV13 dc13 pm13 cd13 ct13 oc14 kV14 dc14 pm14 cd14 ct14 oc15 kV15 dc15 pm15 cd15 ct15 oc16 kV16 dc16 pm16 cd16 ct16 oc17 kV17 dc17 pm17 cd17 ct17 oc18 kV18 dc18 pm18 cd18 ct18 oc19 kV19 dc19 pm19 cd19 ct19 oc20 kV20 dc20 pm20 cd20 ct20 oc21 kV21 dc21 pm21 cd21 ct21 oc22 kV22 dc22 pm22 cd22 ct22 oc23 kV23 dc23 pm23 cd23 ct23 oc24 kV24 dc24 pm24 cd24 ct24 oc25 kV25 dc25 pm25 cd25 ct25 oc26 kV26 dc26 pm26 cd26 ct26 oc27 kV27 dc27 pm27 cd27 ct27 oc28 kV28 dc28 pm28 cd28 ct28 oc29 kV29 dc29 pm29 cd29 ct29 : Value} {t0 t1 t2 t3 t4 : Tok}
    (a0 : PySem.W.nsIn K mainGlobals "is_integer" = some (some (.ref f0)))
    (l0 : K.lookup f0 = some ⟨oc0, od0, .func (PySem.W.fnOf "is_integer" "is_integer" (defArgs sIsInt) (defBody sIsInt) (defScope sIsInt) .none kV0 dc0 pm0 an0 cd0 ct0), sl0⟩)
    (c0 : PySem.W.codeIn K cd0 "is_integer" = true)
    (k0 : PySem.W.keepIn K (.ref f0) = true)
    (a1 : PySem.W.nsIn K mainGlobals "is_within" = some (some (.ref f1)))
    (l1 : K.lookup f1 = some ⟨oc1, od1, .func (PySem.W.fnOf "is_within" "is_within" (defArgs sWithin) (defBody sWithin) (defScope sWithin) .none kV1 dc1 pm1 an1 cd1 ct1), sl1⟩)
    (c1 : PySem.W.codeIn K cd1 "is_within" = true)
    (k1 : PySem.W.keepIn K (.ref f1) = true)
    (a2 : PySem.W.nsIn K mainGlobals "is_heap" = some (some (.ref f2)))
    (l2 : K.lookup f2 = some ⟨oc2, od2, .func (PySem.W.fnOf "is_heap" "is_heap" (defArgs sHeap) (defBody sHeap) (defScope sHeap) .none kV2 dc2 pm2 an2 cd2 ct2), sl2⟩)
    (c2 : PySem.W.codeIn K cd2 "is_heap" = true)
    (k2 : PySem.W.keepIn K (.ref f2) = true)
    (a3 : PySem.W.nsIn K mainGlobals "check_heap" = some (some (.ref f3)))
    (l3 : K.lookup f3 = some ⟨oc3, od3, .func (PySem.W.fnOf "check_heap" "check_heap" (defArgs sCheck) (defBody sCheck) (defScope sCheck) .none kV3 dc3 pm3 an3 cd3 ct3), sl3⟩)
    (c3 : PySem.W.codeIn K cd3 "check_heap" = true)
    (k3 : PySem.W.keepIn K (.ref f3) = true)
    (a4 : PySem.W.nsIn K mainGlobals "hours_in" = some (some (.ref f4)))
    (l4 : K.lookup f4 = some ⟨oc4, od4, .func (PySem.W.fnOf "hours_in" "hours_in" (defArgs sHours) (defBody sHours) (defScope sHours) .none kV4 dc4 pm4 an4 cd4 ct4), sl4⟩)
    (c4 : PySem.W.codeIn K cd4 "hours_in" = true)
    (k4 : PySem.W.keepIn K (.ref f4) = true)
    (a5 : PySem.W.nsIn K mainGlobals "is_part_of" = some (some (.ref f5)))
    (l5 : K.lookup f5 = some ⟨oc5, od5, .func (PySem.W.fnOf "is_part_of" "is_part_of" (defArgs sPart) (defBody sPart) (defScope sPart) .none kV5 dc5 pm5 an5 cd5 ct5), sl5⟩)
    (c5 : PySem.W.codeIn K cd5 "is_part_of" = true)
    (k5 : PySem.W.keepIn K (.ref f5) = true)
    (a6 : PySem.W.nsIn K mainGlobals "taken_from" = some (some (.ref f6)))
    (l6 : K.lookup f6 = some ⟨oc6, od6, .func (PySem.W.fnOf "taken_from" "taken_from" (defArgs sTaken) (defBody sTaken) (defScope sTaken) .none kV6 dc6 pm6 an6 cd6 ct6), sl6⟩)
    (c6 : PySem.W.codeIn K cd6 "taken_from" = true)
    (k6 : PySem.W.keepIn K (.ref f6) = true)
    (a7 : PySem.W.nsIn K mainGlobals "is_filling" = some (some (.ref f7)))
    (l7 : K.lookup f7 = some ⟨oc7, od7, .func (PySem.W.fnOf "is_filling" "is_filling" (defArgs sFilling) (defBody sFilling) (defScope sFilling) .none kV7 dc7 pm7 an7 cd7 ct7), sl7⟩)
    (c7 : PySem.W.codeIn K cd7 "is_filling" = true)
    (k7 : PySem.W.keepIn K (.ref f7) = true)
    (a8 : PySem.W.nsIn K mainGlobals "is_key" = some (some (.ref f8)))
    (l8 : K.lookup f8 = some ⟨oc8, od8, .func (PySem.W.fnOf "is_key" "is_key" (defArgs sKey) (defBody sKey) (defScope sKey) .none kV8 dc8 pm8 an8 cd8 ct8), sl8⟩)
    (c8 : PySem.W.codeIn K cd8 "is_key" = true)
    (k8 : PySem.W.keepIn K (.ref f8) = true)
    (a9 : PySem.W.nsIn K mainGlobals "longest_in" = some (some (.ref f9)))
    (l9 : K.lookup f9 = some ⟨oc9, od9, .func (PySem.W.fnOf "longest_in" "longest_in" (defArgs sIn) (defBody sIn) (defScope sIn) .none kV9 dc9 pm9 an9 cd9 ct9), sl9⟩)
    (c9 : PySem.W.codeIn K cd9 "longest_in" = true)
    (k9 : PySem.W.keepIn K (.ref f9) = true)
    (a10 : PySem.W.nsIn K mainGlobals "longest_first" = some (some (.ref f10)))
    (l10 : K.lookup f10 = some ⟨oc10, od10, .func (PySem.W.fnOf "longest_first" "longest_first" (defArgs sFirst) (defBody sFirst) (defScope sFirst) .none kV10 dc10 pm10 an10 cd10 ct10), sl10⟩)
    (c10 : PySem.W.codeIn K cd10 "longest_first" = true)
    (k10 : PySem.W.keepIn K (.ref f10) = true)
    (a11 : PySem.W.nsIn K mainGlobals "sums_of" = some (some (.ref f11)))
    (l11 : K.lookup f11 = some ⟨oc11, od11, .func (PySem.W.fnOf "sums_of" "sums_of" (defArgs sSums) (defBody sSums) (defScope sSums) .none kV11 dc11 pm11 an11 cd11 ct11), sl11⟩)
    (c11 : PySem.W.codeIn K cd11 "sums_of" = true)
    (k11 : PySem.W.keepIn K (.ref f11) = true)
    (a12 : PySem.W.nsIn K mainGlobals "done_in" = some (some (.ref f12)))
    (l12 : K.lookup f12 = some ⟨oc12, od12, .func (PySem.W.fnOf "done_in" "done_in" (defArgs sDone) (defBody sDone) (defScope sDone) .none kV12 dc12 pm12 an12 cd12 ct12), sl12⟩)
    (c12 : PySem.W.codeIn K cd12 "done_in" = true)
    (k12 : PySem.W.keepIn K (.ref f12) = true)
    (a13 : PySem.W.nsIn K mainGlobals "first_odd" = some (some (.ref f13)))
    (l13 : K.lookup f13 = some ⟨oc13, od13, .func (PySem.W.fnOf "first_odd" "first_odd" (defArgs sOdd) (defBody sOdd) (defScope sOdd) .none kV13 dc13 pm13 an13 cd13 ct13), sl13⟩)
    (c13 : PySem.W.codeIn K cd13 "first_odd" = true)
    (k13 : PySem.W.keepIn K (.ref f13) = true)
    (a14 : PySem.W.nsIn K mainGlobals "bounds_at" = some (some (.ref f14)))
    (l14 : K.lookup f14 = some ⟨oc14, od14, .func (PySem.W.fnOf "bounds_at" "bounds_at" (defArgs sBounds) (defBody sBounds) (defScope sBounds) .none kV14 dc14 pm14 an14 cd14 ct14), sl14⟩)
    (c14 : PySem.W.codeIn K cd14 "bounds_at" = true)
    (k14 : PySem.W.keepIn K (.ref f14) = true)
    (a15 : PySem.W.nsIn K mainGlobals "best_bounds" = some (some (.ref f15)))
    (l15 : K.lookup f15 = some ⟨oc15, od15, .func (PySem.W.fnOf "best_bounds" "best_bounds" (defArgs sBest) (defBody sBest) (defScope sBest) .none kV15 dc15 pm15 an15 cd15 ct15), sl15⟩)
    (c15 : PySem.W.codeIn K cd15 "best_bounds" = true)
    (k15 : PySem.W.keepIn K (.ref f15) = true)
    (a16 : PySem.W.nsIn K mainGlobals "most_done" = some (some (.ref f16)))
    (l16 : K.lookup f16 = some ⟨oc16, od16, .func (PySem.W.fnOf "most_done" "most_done" (defArgs sMost) (defBody sMost) (defScope sMost) .none kV16 dc16 pm16 an16 cd16 ct16), sl16⟩)
    (c16 : PySem.W.codeIn K cd16 "most_done" = true)
    (k16 : PySem.W.keepIn K (.ref f16) = true)
    (a17 : PySem.W.nsIn K mainGlobals "bound_by" = some (some (.ref f17)))
    (l17 : K.lookup f17 = some ⟨oc17, od17, .func (PySem.W.fnOf "bound_by" "bound_by" (defArgs sBound) (defBody sBound) (defScope sBound) .none kV17 dc17 pm17 an17 cd17 ct17), sl17⟩)
    (c17 : PySem.W.codeIn K cd17 "bound_by" = true)
    (k17 : PySem.W.keepIn K (.ref f17) = true)
    (a18 : PySem.W.nsIn K mainGlobals "_law_hand" = some (some (.ref f18)))
    (l18 : K.lookup f18 = some ⟨oc18, od18, .func (PySem.W.fnOf "_law_hand" "_law_hand" (defArgs sHand) (defBody sHand) (defScope sHand) .none kV18 dc18 pm18 an18 cd18 ct18), sl18⟩)
    (c18 : PySem.W.codeIn K cd18 "_law_hand" = true)
    (k18 : PySem.W.keepIn K (.ref f18) = true)
    (a19 : PySem.W.nsIn K mainGlobals "_law_draw" = some (some (.ref f19)))
    (l19 : K.lookup f19 = some ⟨oc19, od19, .func (PySem.W.fnOf "_law_draw" "_law_draw" (defArgs sDraw) (defBody sDraw) (defScope sDraw) .none kV19 dc19 pm19 an19 cd19 ct19), sl19⟩)
    (c19 : PySem.W.codeIn K cd19 "_law_draw" = true)
    (k19 : PySem.W.keepIn K (.ref f19) = true)
    (a20 : PySem.W.nsIn K mainGlobals "_law_is" = some (some (.ref f20)))
    (l20 : K.lookup f20 = some ⟨oc20, od20, .func (PySem.W.fnOf "_law_is" "_law_is" (defArgs sIs) (defBody sIs) (defScope sIs) .none kV20 dc20 pm20 an20 cd20 ct20), sl20⟩)
    (c20 : PySem.W.codeIn K cd20 "_law_is" = true)
    (k20 : PySem.W.keepIn K (.ref f20) = true)
    (a21 : PySem.W.nsIn K mainGlobals "_law_shuffled" = some (some (.ref f21)))
    (l21 : K.lookup f21 = some ⟨oc21, od21, .func (PySem.W.fnOf "_law_shuffled" "_law_shuffled" (defArgs sShuf) (defBody sShuf) (defScope sShuf) .none kV21 dc21 pm21 an21 cd21 ct21), sl21⟩)
    (c21 : PySem.W.codeIn K cd21 "_law_shuffled" = true)
    (k21 : PySem.W.keepIn K (.ref f21) = true)
    (a22 : PySem.W.nsIn K mainGlobals "_law_heap" = some (some (.ref f22)))
    (l22 : K.lookup f22 = some ⟨oc22, od22, .func (PySem.W.fnOf "_law_heap" "_law_heap" (defArgs sLHeap) (defBody sLHeap) (defScope sLHeap) .none kV22 dc22 pm22 an22 cd22 ct22), sl22⟩)
    (c22 : PySem.W.codeIn K cd22 "_law_heap" = true)
    (k22 : PySem.W.keepIn K (.ref f22) = true)
    (a23 : PySem.W.nsIn K mainGlobals "_law_windows" = some (some (.ref f23)))
    (l23 : K.lookup f23 = some ⟨oc23, od23, .func (PySem.W.fnOf "_law_windows" "_law_windows" (defArgs sLWin) (defBody sLWin) (defScope sLWin) .none kV23 dc23 pm23 an23 cd23 ct23), sl23⟩)
    (c23 : PySem.W.codeIn K cd23 "_law_windows" = true)
    (k23 : PySem.W.keepIn K (.ref f23) = true)
    (a24 : PySem.W.nsIn K mainGlobals "_law_each" = some (some (.ref f24)))
    (l24 : K.lookup f24 = some ⟨oc24, od24, .func (PySem.W.fnOf "_law_each" "_law_each" (defArgs sEach) (defBody sEach) (defScope sEach) .none kV24 dc24 pm24 an24 cd24 ct24), sl24⟩)
    (c24 : PySem.W.codeIn K cd24 "_law_each" = true)
    (k24 : PySem.W.keepIn K (.ref f24) = true)
    (a25 : PySem.W.nsIn K mainGlobals "_law_bounds" = some (some (.ref f25)))
    (l25 : K.lookup f25 = some ⟨oc25, od25, .func (PySem.W.fnOf "_law_bounds" "_law_bounds" (defArgs sLB) (defBody sLB) (defScope sLB) .none kV25 dc25 pm25 an25 cd25 ct25), sl25⟩)
    (c25 : PySem.W.codeIn K cd25 "_law_bounds" = true)
    (k25 : PySem.W.keepIn K (.ref f25) = true)
    (a26 : PySem.W.nsIn K mainGlobals "_law_told" = some (some (.ref f26)))
    (l26 : K.lookup f26 = some ⟨oc26, od26, .func (PySem.W.fnOf "_law_told" "_law_told" (defArgs sTold) (defBody sTold) (defScope sTold) .none kV26 dc26 pm26 an26 cd26 ct26), sl26⟩)
    (c26 : PySem.W.codeIn K cd26 "_law_told" = true)
    (k26 : PySem.W.keepIn K (.ref f26) = true)
    (a27 : PySem.W.nsIn K mainGlobals "_law_go" = some (some (.ref f27)))
    (l27 : K.lookup f27 = some ⟨oc27, od27, .func (PySem.W.fnOf "_law_go" "_law_go" (defArgs sGo) (defBody sGo) (defScope sGo) .none kV27 dc27 pm27 an27 cd27 ct27), sl27⟩)
    (c27 : PySem.W.codeIn K cd27 "_law_go" = true)
    (k27 : PySem.W.keepIn K (.ref f27) = true)
    (a28 : PySem.W.nsIn K mainGlobals "_law_lengths" = some (some (.ref f28)))
    (l28 : K.lookup f28 = some ⟨oc28, od28, .func (PySem.W.fnOf "_law_lengths" "_law_lengths" (defArgs sLens) (defBody sLens) (defScope sLens) .none kV28 dc28 pm28 an28 cd28 ct28), sl28⟩)
    (c28 : PySem.W.codeIn K cd28 "_law_lengths" = true)
    (k28 : PySem.W.keepIn K (.ref f28) = true)
    (a29 : PySem.W.nsIn K mainGlobals "law" = some (some (.ref f29)))
    (l29 : K.lookup f29 = some ⟨oc29, od29, .func (PySem.W.fnOf "law" "law" (defArgs sLaw) (defBody sLaw) (defScope sLaw) .none kV29 dc29 pm29 an29 cd29 ct29), sl29⟩)
    (c29 : PySem.W.codeIn K cd29 "law" = true)
    (k29 : PySem.W.keepIn K (.ref f29) = true)
    (z_int : PySem.W.nsIn K mainGlobals "int" = some none)
    (z_bool : PySem.W.nsIn K mainGlobals "bool" = some none)
    (z_dict : PySem.W.nsIn K mainGlobals "dict" = some none)
    (z_tuple : PySem.W.nsIn K mainGlobals "tuple" = some none)
    (z_list : PySem.W.nsIn K mainGlobals "list" = some none)
    (z_isinstance : PySem.W.nsIn K mainGlobals "isinstance" = some none)
    (z_len : PySem.W.nsIn K mainGlobals "len" = some none)
    (z_all : PySem.W.nsIn K mainGlobals "all" = some none)
    (z_sum : PySem.W.nsIn K mainGlobals "sum" = some none)
    (z_min : PySem.W.nsIn K mainGlobals "min" = some none)
    (z_max : PySem.W.nsIn K mainGlobals "max" = some none)
    (z_abs : PySem.W.nsIn K mainGlobals "abs" = some none)
    (z_sorted : PySem.W.nsIn K mainGlobals "sorted" = some none)
    (z_range : PySem.W.nsIn K mainGlobals "range" = some none)
    (z_zip : PySem.W.nsIn K mainGlobals "zip" = some none)
    (z_enumerate : PySem.W.nsIn K mainGlobals "enumerate" = some none)
    (m0 : PySem.W.nsIn K mainGlobals "MOST_LENGTHS" = some (some (.int 8 t0)))
    (m1 : PySem.W.nsIn K mainGlobals "MOST_LENGTH" = some (some (.int 1000000 t1)))
    (m2 : PySem.W.nsIn K mainGlobals "MOST_WORKS" = some (some (.int 1000000 t2)))
    (m3 : PySem.W.nsIn K mainGlobals "MOST_WINDOWS" = some (some (.int 40 t3)))
    (m4 : PySem.W.nsIn K mainGlobals "MOST_WINDOW" = some (some (.int 1000000000 t4)))
    (gC : PySem.W.nsIn K mainGlobals "NotInOne" = some (some (.ref C)))
    (eC : PySem.W.excIn K C [.type "ValueError", .type "Exception", .type "BaseException", .type "object"] "ValueError.__new__" = true)
    (kC : PySem.W.keepIn K (.ref C) = true)
    (sC : PySem.W.subIn K (.ref C) (.type "BaseException") = some true)
    (tC : PySem.W.typeIn K (.ref C) = some (.type "type"))
    (iC : PySem.W.isClsIn K C = true)
    (uC : PySem.W.subIn K (.ref C) (.ref C) = some true)
    : ∃ fd : FuncData, (∀ (s : Shared) (v : Value), BindsTo s fd ⟨[v], []⟩ [("_law_script", v)]) ∧ ∀ base : Heap, K.In base → base.Ns mainGlobals mg → FnOk l.prog w K mg base CX0 8 fa fd ["_law_script"] (spLaw K) := by
  have e := hfa.symm.trans (PySem.W.mg_of X G a29)
  cases e
  have N : Free mg := ⟨PySem.W.mg_none_of X G z_int, PySem.W.mg_none_of X G z_bool, PySem.W.mg_none_of X G z_dict, PySem.W.mg_none_of X G z_tuple, PySem.W.mg_none_of X G z_list, PySem.W.mg_none_of X G z_isinstance, PySem.W.mg_none_of X G z_len, PySem.W.mg_none_of X G z_all, PySem.W.mg_none_of X G z_sum, PySem.W.mg_none_of X G z_min, PySem.W.mg_none_of X G z_max, PySem.W.mg_none_of X G z_abs, PySem.W.mg_none_of X G z_sorted, PySem.W.mg_none_of X G z_range, PySem.W.mg_none_of X G z_zip, PySem.W.mg_none_of X G z_enumerate⟩
  have M : Nums mg := ⟨⟨_, PySem.W.mg_of X G m0⟩, ⟨_, PySem.W.mg_of X G m1⟩, ⟨_, PySem.W.mg_of X G m2⟩, ⟨_, PySem.W.mg_of X G m3⟩, ⟨_, PySem.W.mg_of X G m4⟩⟩
  have T : Err K mg C := ⟨eC, PySem.W.mg_of X G gC, kC, sC, tC, own_self sC iC tC uC⟩
  have F0 := fun_mk (st := sIsInt) l0 c0 k0
  have D0 : Def K mg "is_integer" sIsInt ["thing"] _ _ := ⟨F0, PySem.W.mg_of X G a0, F0.binds (ps := ["thing"]) fun _ _ _ _ _ _ us hl => match us, hl with | [_], _ => rfl⟩
  have F1 := fun_mk (st := sWithin) l1 c1 k1
  have D1 : Def K mg "is_within" sWithin ["thing", "least", "most"] _ _ := ⟨F1, PySem.W.mg_of X G a1, F1.binds (ps := ["thing", "least", "most"]) fun _ _ _ _ _ _ us hl => match us, hl with | [_, _, _], _ => rfl⟩
  have F2 := fun_mk (st := sHeap) l2 c2 k2
  have D2 : Def K mg "is_heap" sHeap ["thing"] _ _ := ⟨F2, PySem.W.mg_of X G a2, F2.binds (ps := ["thing"]) fun _ _ _ _ _ _ us hl => match us, hl with | [_], _ => rfl⟩
  have F3 := fun_mk (st := sCheck) l3 c3 k3
  have D3 : Def K mg "check_heap" sCheck ["heap", "windows"] _ _ := ⟨F3, PySem.W.mg_of X G a3, F3.binds (ps := ["heap", "windows"]) fun _ _ _ _ _ _ us hl => match us, hl with | [_, _], _ => rfl⟩
  have F4 := fun_mk (st := sHours) l4 c4 k4
  have D4 : Def K mg "hours_in" sHours ["works"] _ _ := ⟨F4, PySem.W.mg_of X G a4, F4.binds (ps := ["works"]) fun _ _ _ _ _ _ us hl => match us, hl with | [_], _ => rfl⟩
  have F5 := fun_mk (st := sPart) l5 c5 k5
  have D5 : Def K mg "is_part_of" sPart ["left", "window", "works"] _ _ := ⟨F5, PySem.W.mg_of X G a5, F5.binds (ps := ["left", "window", "works"]) fun _ _ _ _ _ _ us hl => match us, hl with | [_, _, _], _ => rfl⟩
  have F6 := fun_mk (st := sTaken) l6 c6 k6
  have D6 : Def K mg "taken_from" sTaken ["left", "works"] _ _ := ⟨F6, PySem.W.mg_of X G a6, F6.binds (ps := ["left", "works"]) fun _ _ _ _ _ _ us hl => match us, hl with | [_, _], _ => rfl⟩
  have F7 := fun_mk (st := sFilling) l7 c7 k7
  have D7 : Def K mg "is_filling" sFilling ["heap", "windows", "thing"] _ _ := ⟨F7, PySem.W.mg_of X G a7, F7.binds (ps := ["heap", "windows", "thing"]) fun _ _ _ _ _ _ us hl => match us, hl with | [_, _, _], _ => rfl⟩
  have F8 := fun_mk (st := sKey) l8 c8 k8
  have D8 : Def K mg "is_key" sKey ["thing", "heap"] _ _ := ⟨F8, PySem.W.mg_of X G a8, F8.binds (ps := ["thing", "heap"]) fun _ _ _ _ _ _ us hl => match us, hl with | [_, _], _ => rfl⟩
  have F9 := fun_mk (st := sIn) l9 c9 k9
  have D9 : Def K mg "longest_in" sIn ["left", "window"] _ _ := ⟨F9, PySem.W.mg_of X G a9, F9.binds (ps := ["left", "window"]) fun _ _ _ _ _ _ us hl => match us, hl with | [_, _], _ => rfl⟩
  have F10 := fun_mk (st := sFirst) l10 c10 k10
  have D10 : Def K mg "longest_first" sFirst ["heap", "windows"] _ _ := ⟨F10, PySem.W.mg_of X G a10, F10.binds (ps := ["heap", "windows"]) fun _ _ _ _ _ _ us hl => match us, hl with | [_, _], _ => rfl⟩
  have F11 := fun_mk (st := sSums) l11 c11 k11
  have D11 : Def K mg "sums_of" sSums ["numbers"] _ _ := ⟨F11, PySem.W.mg_of X G a11, F11.binds (ps := ["numbers"]) fun _ _ _ _ _ _ us hl => match us, hl with | [_], _ => rfl⟩
  have F12 := fun_mk (st := sDone) l12 c12 k12
  have D12 : Def K mg "done_in" sDone ["heap", "windows", "thing"] _ _ := ⟨F12, PySem.W.mg_of X G a12, F12.binds (ps := ["heap", "windows", "thing"]) fun _ _ _ _ _ _ us hl => match us, hl with | [_, _, _], _ => rfl⟩
  have F13 := fun_mk (st := sOdd) l13 c13 k13
  have D13 : Def K mg "first_odd" sOdd ["lengths"] _ _ := ⟨F13, PySem.W.mg_of X G a13, F13.binds (ps := ["lengths"]) fun _ _ _ _ _ _ us hl => match us, hl with | [_], _ => rfl⟩
  have F14 := fun_mk (st := sBounds) l14 c14 k14
  have D14 : Def K mg "bounds_at" sBounds ["heap", "windows"] _ _ := ⟨F14, PySem.W.mg_of X G a14, F14.binds (ps := ["heap", "windows"]) fun _ _ _ _ _ _ us hl => match us, hl with | [_, _], _ => rfl⟩
  have F15 := fun_mk (st := sBest) l15 c15 k15
  have D15 : Def K mg "best_bounds" sBest ["heap", "windows"] _ _ := ⟨F15, PySem.W.mg_of X G a15, F15.binds (ps := ["heap", "windows"]) fun _ _ _ _ _ _ us hl => match us, hl with | [_, _], _ => rfl⟩
  have F16 := fun_mk (st := sMost) l16 c16 k16
  have D16 : Def K mg "most_done" sMost ["heap", "windows"] _ _ := ⟨F16, PySem.W.mg_of X G a16, F16.binds (ps := ["heap", "windows"]) fun _ _ _ _ _ _ us hl => match us, hl with | [_, _], _ => rfl⟩
  have F17 := fun_mk (st := sBound) l17 c17 k17
  have D17 : Def K mg "bound_by" sBound ["heap", "windows"] _ _ := ⟨F17, PySem.W.mg_of X G a17, F17.binds (ps := ["heap", "windows"]) fun _ _ _ _ _ _ us hl => match us, hl with | [_, _], _ => rfl⟩
  have F18 := fun_mk (st := sHand) l18 c18 k18
  have D18 : Def K mg "_law_hand" sHand ["_law_script"] _ _ := ⟨F18, PySem.W.mg_of X G a18, F18.binds (ps := ["_law_script"]) fun _ _ _ _ _ _ us hl => match us, hl with | [_], _ => rfl⟩
  have F19 := fun_mk (st := sDraw) l19 c19 k19
  have D19 : Def K mg "_law_draw" sDraw ["_law_hand_here", "_law_many"] _ _ := ⟨F19, PySem.W.mg_of X G a19, F19.binds (ps := ["_law_hand_here", "_law_many"]) fun _ _ _ _ _ _ us hl => match us, hl with | [_, _], _ => rfl⟩
  have F20 := fun_mk (st := sIs) l20 c20 k20
  have D20 : Def K mg "_law_is" sIs ["_law_told_here", "_law_due"] _ _ := ⟨F20, PySem.W.mg_of X G a20, F20.binds (ps := ["_law_told_here", "_law_due"]) fun _ _ _ _ _ _ us hl => match us, hl with | [_, _], _ => rfl⟩
  have F21 := fun_mk (st := sShuf) l21 c21 k21
  have D21 : Def K mg "_law_shuffled" sShuf ["_law_hand_here", "_law_things"] _ _ := ⟨F21, PySem.W.mg_of X G a21, F21.binds (ps := ["_law_hand_here", "_law_things"]) fun _ _ _ _ _ _ us hl => match us, hl with | [_, _], _ => rfl⟩
  have F22 := fun_mk (st := sLHeap) l22 c22 k22
  have D22 : Def K mg "_law_heap" sLHeap ["_law_hand_here"] _ _ := ⟨F22, PySem.W.mg_of X G a22, F22.binds (ps := ["_law_hand_here"]) fun _ _ _ _ _ _ us hl => match us, hl with | [_], _ => rfl⟩
  have F23 := fun_mk (st := sLWin) l23 c23 k23
  have D23 : Def K mg "_law_windows" sLWin ["_law_hand_here", "_law_heap_here"] _ _ := ⟨F23, PySem.W.mg_of X G a23, F23.binds (ps := ["_law_hand_here", "_law_heap_here"]) fun _ _ _ _ _ _ us hl => match us, hl with | [_, _], _ => rfl⟩
  have F24 := fun_mk (st := sEach) l24 c24 k24
  have D24 : Def K mg "_law_each" sEach ["_law_heap_here", "_law_windows_here"] _ _ := ⟨F24, PySem.W.mg_of X G a24, F24.binds (ps := ["_law_heap_here", "_law_windows_here"]) fun _ _ _ _ _ _ us hl => match us, hl with | [_, _], _ => rfl⟩
  have F25 := fun_mk (st := sLB) l25 c25 k25
  have D25 : Def K mg "_law_bounds" sLB ["_law_heap_here", "_law_windows_here"] _ _ := ⟨F25, PySem.W.mg_of X G a25, F25.binds (ps := ["_law_heap_here", "_law_windows_here"]) fun _ _ _ _ _ _ us hl => match us, hl with | [_, _], _ => rfl⟩
  have F26 := fun_mk (st := sTold) l26 c26 k26
  have D26 : Def K mg "_law_told" sTold ["_law_heap_here", "_law_windows_here"] _ _ := ⟨F26, PySem.W.mg_of X G a26, F26.binds (ps := ["_law_heap_here", "_law_windows_here"]) fun _ _ _ _ _ _ us hl => match us, hl with | [_, _], _ => rfl⟩
  have F27 := fun_mk (st := sGo) l27 c27 k27
  have D27 : Def K mg "_law_go" sGo ["_law_heap_here"] _ _ := ⟨F27, PySem.W.mg_of X G a27, F27.binds (ps := ["_law_heap_here"]) fun _ _ _ _ _ _ us hl => match us, hl with | [_], _ => rfl⟩
  have F28 := fun_mk (st := sLens) l28 c28 k28
  have D28 : Def K mg "_law_lengths" sLens ["_law_heap_here", "_law_windows_here", "_law_most"] _ _ := ⟨F28, PySem.W.mg_of X G a28, F28.binds (ps := ["_law_heap_here", "_law_windows_here", "_law_most"]) fun _ _ _ _ _ _ us hl => match us, hl with | [_, _, _], _ => rfl⟩
  have F29 := fun_mk (st := sLaw) l29 c29 k29
  have D29 : Def K mg "law" sLaw ["_law_script"] _ _ := ⟨F29, PySem.W.mg_of X G a29, F29.binds (ps := ["_law_script"]) fun _ _ _ _ _ _ us hl => match us, hl with | [_], _ => rfl⟩
  refine ⟨PySem.W.fnOf "law" "law" (defArgs sLaw) (defBody sLaw) (defScope sLaw) .none kV29 dc29 pm29 an29 cd29 ct29, fun s v => .of_eq rfl, fun base _ _ => ?_⟩
  have Gint := ok_isint (P := l.prog) (w := w) (base := base) N D0
  have Gwithin := ok_within (P := l.prog) (w := w) (base := base) Gint D1
  have Gheap := ok_heap (P := l.prog) (w := w) (base := base) N M Gwithin D2
  have Gcheck := ok_check (P := l.prog) (w := w) (base := base) N M Gheap Gwithin D3
  have Ghours := ok_hours (P := l.prog) (w := w) (base := base) N D4
  have Gkey := ok_key (P := l.prog) (w := w) (base := base) M Gwithin D8
  have Gpart := ok_part (P := l.prog) (w := w) (base := base) N Gwithin Ghours D5
  have Gtaken := ok_taken (P := l.prog) (w := w) (base := base) D6
  have Gfilling := ok_filling (P := l.prog) (w := w) (base := base) N Gkey Gpart Gtaken D7
  have Gin := ok_in (P := l.prog) (w := w) (base := base) N D9
  have Gfirst := ok_first (P := l.prog) (w := w) (base := base) N Gcheck Gin Gtaken D10
  have Gsums := ok_sums (P := l.prog) (w := w) (base := base) N D11
  have Gdone := ok_done (P := l.prog) (w := w) (base := base) Gcheck Gfilling Ghours Gsums D12
  have Godd := ok_odd (P := l.prog) (w := w) (base := base) N D13
  have Gbounds := ok_bounds (P := l.prog) (w := w) (base := base) N Ghours D14
  have Gbest := ok_best (P := l.prog) (w := w) (base := base) N T Gcheck Godd Gbounds D15
  have Gmost := ok_most (P := l.prog) (w := w) (base := base) N Gbest D16
  have Gbound := ok_bound (P := l.prog) (w := w) (base := base) N Gbest D17
  have Ghand := ok_hand (P := l.prog) (w := w) (base := base) N D18
  have Gdraw := ok_draw (P := l.prog) (w := w) (base := base) N D19
  have Gis0 := ok_is0 (P := l.prog) (w := w) (base := base) N D20
  have Gis1 := ok_isS (P := l.prog) (w := w) (base := base) (R := TwI) N (fun s h => TwI.mono s h) Gis0 D20
  have Gis2 := ok_isS (P := l.prog) (w := w) (base := base) (R := TwT TwI) N (fun s h => TwT2.mono s h) Gis1 D20
  have Gshuf := ok_shuf (P := l.prog) (w := w) (base := base) N Gdraw D21
  have Glheap := ok_lheap (P := l.prog) (w := w) (base := base) N Gdraw Gshuf D22
  have Glwin := ok_lwin (P := l.prog) (w := w) (base := base) N Gdraw D23
  have Geach := ok_each (P := l.prog) (w := w) (base := base) N D24
  have Glbounds := ok_lbounds (P := l.prog) (w := w) (base := base) N D25
  have Gtold := ok_told (P := l.prog) (w := w) (base := base) T Gmost Gbound D26
  have Ggo := ok_go (P := l.prog) (w := w) (base := base) N D27
  have Glens := ok_llens (P := l.prog) (w := w) (base := base) N Glbounds D28
  exact ok_law N Ghand Gdraw Glheap Glwin Gtold Ggo Geach Gis2 Glens Gfirst Gdone Gmost Gbound D29
end K81
open PySem PySem.W PyProof.Rows
set_option maxRecDepth 100000 in
set_option maxHeartbeats 0 in
theorem PySem.Challenge.cw_busyfloor_k81_whole_most_done_and_its_bo_holds : PySem.Challenge.rw_busyfloor_k81_whole_most_done_and_its_bo.Holds := by
  refine k81head ?_
  k_fill
  refine L2.walk_of (l := PySem.Challenge.rw_busyfloor_k81_whole_most_done_and_its_bo) (n := 63) (k := 8) (x := "_law_script") (CX := fun _ => L2.CX0) (sp := fun w => K81.spLaw _) rfl (by decide) rfl ⟨rfl, by decide, by decide⟩ (fun w h Y => PySem.W.kIn_of Y) ?F (fun _ _ a ns hl _ hS => ⟨a, ns, rfl, hS, hl, fun _ => rfl⟩) (fun _ _ _ _ _ h => h)
  case F =>
    intro w mg fa h KX G hmg
    refine' K81.all_mk KX G hmg ?a0 ?l0 ?c0 ?k0 ?a1 ?l1 ?c1 ?k1 ?a2 ?l2 ?c2 ?k2 ?a3 ?l3 ?c3 ?k3 ?a4 ?l4 ?c4 ?k4 ?a5 ?l5 ?c5 ?k5 ?a6 ?l6 ?c6 ?k6 ?a7 ?l7 ?c7 ?k7 ?a8 ?l8 ?c8 ?k8 ?a9 ?l9 ?c9 ?k9 ?a10 ?l10 ?c10 ?k10 ?a11 ?l11 ?c11 ?k11 ?a12 ?l12 ?c12 ?k12 ?a13 ?l13 ?c13 ?k13 ?a14 ?l14 ?c14 ?k14 ?a15 ?l15 ?c15 ?k15 ?a16 ?l16 ?c16 ?k16 ?a17 ?l17 ?c17 ?k17 ?a18 ?l18 ?c18 ?k18 ?a19 ?l19 ?c19 ?k19 ?a20 ?l20 ?c20 ?k20 ?a21 ?l21 ?c21 ?k21 ?a22 ?l22 ?c22 ?k22 ?a23 ?l23 ?c23 ?k23 ?a24 ?l24 ?c24 ?k24 ?a25 ?l25 ?c25 ?k25 ?a26 ?l26 ?c26 ?k26 ?a27 ?l27 ?c27 ?k27 ?a28 ?l28 ?c28 ?k28 ?a29 ?l29 ?c29 ?k29 ?z_int ?z_bool ?z_dict ?z_tuple ?z_list ?z_isinstance ?z_len ?z_all ?z_sum ?z_min ?z_max ?z_abs ?z_sorted ?z_range ?z_zip ?z_enumerate ?m0 ?m1 ?m2 ?m3 ?m4 ?gC ?eC ?kC ?sC ?tC ?iC ?uC
    (case a0 => k_is)
    (case l0 => k_is)
    (case c0 => k_is)
    (case k0 => k_is)
    (case a1 => k_is)
    (case l1 => k_is)
    (case c1 => k_is)
    (case k1 => k_is)
    (case a2 => k_is)
    (case l2 => k_is)
    (case c2 => k_is)
    (case k2 => k_is)
    (case a3 => k_is)
    (case l3 => k_is)
    (case c3 => k_is)
    (case k3 => k_is)
    (case a4 => k_is)
    (case l4 => k_is)
    (case c4 => k_is)
    (case k4 => k_is)
    (case a5 => k_is)
    (case l5 => k_is)
    (case c5 => k_is)
    (case k5 => k_is)
    (case a6 => k_is)
    (case l6 => k_is)
    (case c6 => k_is)
    (case k6 => k_is)
    (case a7 => k_is)
    (case l7 => k_is)
    (case c7 => k_is)
    (case k7 => k_is)
    (case a8 => k_is)
    (case l8 => k_is)
    (case c8 => k_is)
    (case k8 => k_is)
    (case a9 => k_is)
    (case l9 => k_is)
    (case c9 => k_is)
    (case k9 => k_is)
    (case a10 => k_is)
    (case l10 => k_is)
    (case c10 => k_is)
    (case k10 => k_is)
    (case a11 => k_is)
    (case l11 => k_is)
    (case c11 => k_is)
    (case k11 => k_is)
    (case a12 => k_is)
    (case l12 => k_is)
    (case c12 => k_is)
    (case k12 => k_is)
    (case a13 => k_is)
    (case l13 => k_is)
    (case c13 => k_is)
    (case k13 => k_is)
    (case a14 => k_is)
    (case l14 => k_is)
    (case c14 => k_is)
    (case k14 => k_is)
    (case a15 => k_is)
    (case l15 => k_is)
    (case c15 => k_is)
    (case k15 => k_is)
    (case a16 => k_is)
    (case l16 => k_is)
    (case c16 => k_is)
    (case k16 => k_is)
    (case a17 => k_is)
    (case l17 => k_is)
    (case c17 => k_is)
    (case k17 => k_is)
    (case a18 => k_is)
    (case l18 => k_is)
    (case c18 => k_is)
    (case k18 => k_is)
    (case a19 => k_is)
    (case l19 => k_is)
    (case c19 => k_is)
    (case k19 => k_is)
    (case a20 => k_is)
    (case l20 => k_is)
    (case c20 => k_is)
    (case k20 => k_is)
    (case a21 => k_is)
    (case l21 => k_is)
    (case c21 => k_is)
    (case k21 => k_is)
    (case a22 => k_is)
    (case l22 => k_is)
    (case c22 => k_is)
    (case k22 => k_is)
    (case a23 => k_is)
    (case l23 => k_is)
    (case c23 => k_is)
    (case k23 => k_is)
    (case a24 => k_is)
    (case l24 => k_is)
    (case c24 => k_is)
    (case k24 => k_is)
    (case a25 => k_is)
    (case l25 => k_is)
    (case c25 => k_is)
    (case k25 => k_is)
    (case a26 => k_is)
    (case l26 => k_is)
    (case c26 => k_is)
    (case k26 => k_is)
    (case a27 => k_is)
    (case l27 => k_is)
    (case c27 => k_is)
    (case k27 => k_is)
    (case a28 => k_is)
    (case l28 => k_is)
    (case c28 => k_is)
    (case k28 => k_is)
    (case a29 => k_is)
    (case l29 => k_is)
    (case c29 => k_is)
    (case k29 => k_is)
    (case z_int => k_is)
    (case z_bool => k_is)
    (case z_dict => k_is)
    (case z_tuple => k_is)
    (case z_list => k_is)
    (case z_isinstance => k_is)
    (case z_len => k_is)
    (case z_all => k_is)
    (case z_sum => k_is)
    (case z_min => k_is)
    (case z_max => k_is)
    (case z_abs => k_is)
    (case z_sorted => k_is)
    (case z_range => k_is)
    (case z_zip => k_is)
    (case z_enumerate => k_is)
    (case m0 => k_is)
    (case m1 => k_is)
    (case m2 => k_is)
    (case m3 => k_is)
    (case m4 => k_is)
    (case gC => k_is)
    (case eC => first | k_is | k_exc)
    (case kC => k_is)
    (case sC => k_is)
    (case tC => k_is)
    (case iC => k_is)
    (case uC => first | rfl | k_is)
