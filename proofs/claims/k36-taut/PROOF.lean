import PyProof.Rows.All
import Wide.All
import OpenK.AllK
import Wide.FinOn
import HandS.ForMost
import HandS.Evl
import HandS.Wide
import HandS.NoneIn
import HandS.IsInst
import PySem.Challenge.RW_footpath_k36_whole_no_string_is_shorter
set_option Elab.async false
set_option linter.all false
set_option maxRecDepth 100000
set_option maxHeartbeats 4000000
namespace FP
abbrev Pt := Int × Int
abbrev Gate := Pt × Pt
def w (u v : Pt) : Int := u.2 * v.1 - u.1 * v.2
def sb (a b : Pt) : Pt := (a.1 - b.1, a.2 - b.2)
def dt (u v : Pt) : Int := u.1 * v.1 + u.2 * v.2
def cross (a b c : Pt) : Int := (b.2 - a.2) * (c.1 - a.1) - (b.1 - a.1) * (c.2 - a.2)
def dist (a b : Pt) : Int := (a.1 - b.1) * (a.1 - b.1) + (a.2 - b.2) * (a.2 - b.2)

theorem nonneg_of_mul {a b : Int} (h : 0 ≤ a * b) (hb : 0 < b) : 0 ≤ a := by
  by_cases h0 : 0 ≤ a
  · exact h0
  · have := Int.mul_neg_of_neg_of_pos (by omega : a < 0) hb
    omega
theorem pos_of_mul {a b : Int} (h : 0 < a * b) (hb : 0 < b) : 0 < a := by
  by_cases h0 : 0 < a
  · exact h0
  · have := Int.mul_nonneg (by omega : 0 ≤ -a) (Int.le_of_lt hb)
    rw [Int.neg_mul] at this
    omega
theorem plu (p x y z : Pt) : w x z * w p y = w x y * w p z + w y z * w p x := by
  simp only [w]; grind
theorem trans {p x y z : Pt} (hx : 0 ≤ w p x) (hy : 0 < w p y) (hz : 0 ≤ w p z) (a : 0 ≤ w x y) (b : 0 ≤ w y z) : 0 ≤ w x z := by
  refine nonneg_of_mul (b := w p y) ?_ hy
  rw [plu]
  exact Int.add_nonneg (Int.mul_nonneg a hz) (Int.mul_nonneg b hx)
theorem trans_lt1 {p x y z : Pt} (hx : 0 ≤ w p x) (hy : 0 < w p y) (hz : 0 < w p z) (a : 0 < w x y) (b : 0 ≤ w y z) : 0 < w x z := by
  refine pos_of_mul (b := w p y) ?_ hy
  rw [plu]
  have := Int.mul_pos a hz
  have := Int.mul_nonneg b hx
  omega
theorem trans_lt2 {p x y z : Pt} (hx : 0 < w p x) (hy : 0 < w p y) (hz : 0 ≤ w p z) (a : 0 ≤ w x y) (b : 0 < w y z) : 0 < w x z := by
  refine pos_of_mul (b := w p y) ?_ hy
  rw [plu]
  have := Int.mul_nonneg a hz
  have := Int.mul_pos b hx
  omega
/-- x between R and L (seen in front by p), R and L in the half plane of h: so is x -/
theorem two {p h L R x : Pt} (hL : 0 < w p L) (hR : 0 < w p R) (hx : 0 < w p x) (a : 0 ≤ w R x) (b : 0 ≤ w x L) (c : 0 ≤ w h R) (d : 0 ≤ w h L) : 0 ≤ w h x := by
  by_cases hh : 0 ≤ w p h
  · exact trans hh hR (Int.le_of_lt hx) c a
  · have e1 : ∀ u v : Pt, w u (-v.1, -v.2) = - w u v := fun u v => by simp only [w]; grind
    have e2 : ∀ u v : Pt, w u v = - w v u := fun u v => by simp only [w]; grind
    have := trans (p := p) (x := x) (y := L) (z := (-h.1, -h.2)) (by omega) hL (by rw [e1]; omega) b (by rw [e1, e2]; omega)
    rw [e1, e2] at this
    omega
theorem anti (u v : Pt) : w u v = - w v u := by simp only [w]; grind
theorem w_self (u : Pt) : w u u = 0 := by simp only [w]; grind
end FP
namespace FP
/-- X is not a point of the segment g -/
def off (g : Gate) (X : Pt) : Prop := cross g.1 g.2 X ≠ 0 ∨ 0 < dt (sb g.1 X) (sb g.2 X)
theorem sq0 (a : Int) : 0 ≤ a * a := by
  rcases Int.le_total 0 a with h | h
  · exact Int.mul_nonneg h h
  · exact Int.mul_nonneg_of_nonpos_of_nonpos h h
/-- the mixture argument: a point on both -/
theorem mix {c a b : Int} {p q x : Pt} (hc : 0 < c) (ha : 0 ≤ a) (hb : 0 ≤ b) (hs : c = a + b) (h1 : c * x.1 = b * p.1 + a * q.1) (h2 : c * x.2 = b * p.2 + a * q.2) : dt (sb p x) (sb q x) ≤ 0 := by
  have e1 : c * (p.1 - x.1) = a * (p.1 - q.1) := by rw [Int.mul_sub, h1, hs]; grind
  have e2 : c * (p.2 - x.2) = a * (p.2 - q.2) := by rw [Int.mul_sub, h2, hs]; grind
  have e3 : c * (q.1 - x.1) = b * (q.1 - p.1) := by rw [Int.mul_sub, h1, hs]; grind
  have e4 : c * (q.2 - x.2) = b * (q.2 - p.2) := by rw [Int.mul_sub, h2, hs]; grind
  have key : (c * c) * dt (sb p x) (sb q x) = - ((a * b) * (((p.1 - q.1) * (p.1 - q.1)) + ((p.2 - q.2) * (p.2 - q.2)))) := by
    simp only [dt, sb]
    have : c * c * ((p.1 - x.1) * (q.1 - x.1) + (p.2 - x.2) * (q.2 - x.2)) = (c * (p.1 - x.1)) * (c * (q.1 - x.1)) + (c * (p.2 - x.2)) * (c * (q.2 - x.2)) := by grind
    rw [this, e1, e2, e3, e4]
    grind
  have hab := Int.mul_nonneg ha hb
  have hq : 0 ≤ (p.1 - q.1) * (p.1 - q.1) + (p.2 - q.2) * (p.2 - q.2) := Int.add_nonneg (sq0 _) (sq0 _)
  have hm := Int.mul_nonneg hab hq
  have hcc := Int.mul_pos hc hc
  apply Decidable.byContradiction
  intro hn
  have := Int.mul_pos hcc (by omega : 0 < dt (sb p x) (sb q x))
  omega
/-- one ray (x: l or r, of weight n): the ends of k are not on both its sides -/
theorem ray {n : Pt} {N : Int} {p q x : Pt} (hN : 0 < N) (hx : w n x = N) (hp : N ≤ w n p) (hq : N ≤ w n q)
    (hD : 0 < w p q) (hk : w p q ≤ w p x + w x q) (ho : w p q ≠ w p x + w x q ∨ 0 < dt (sb p x) (sb q x)) (ha : 0 ≤ w p x) (hb : 0 ≤ w x q) : False := by
  have h1 : w p q * x.1 = w x q * p.1 + w p x * q.1 := by simp only [w]; grind
  have h2 : w p q * x.2 = w x q * p.2 + w p x * q.2 := by simp only [w]; grind
  have hn : w p q * w n x = w x q * w n p + w p x * w n q := by simp only [w]; grind
  have g1 := Int.mul_le_mul_of_nonneg_left hp hb
  have g2 := Int.mul_le_mul_of_nonneg_left hq ha
  have g3 : (w x q + w p x) * N ≤ w p q * N := by
    rw [hx] at hn
    rw [Int.add_mul, hn]
    omega
  have g4 : w x q + w p x ≤ w p q := Int.le_of_mul_le_mul_right g3 hN
  have es : w p q = w p x + w x q := by omega
  rcases ho with ho | ho
  · exact ho es
  · have := mix hD ha hb es h1 h2
    omega
theorem vlem {l r p q : Pt} (c0 : 0 < w r l) (mp : 0 ≤ w (sb r l) (sb p l)) (mq : 0 ≤ w (sb r l) (sb q l))
    (kl : w (sb q p) (sb l p) ≤ 0) (kr : w (sb q p) (sb r p) ≤ 0) (hD : 0 < w p q)
    (o1 : w (sb r l) (sb p l) ≠ 0 ∨ 0 < dt (sb l p) (sb r p))
    (o3 : w (sb q p) (sb l p) ≠ 0 ∨ 0 < dt (sb p l) (sb q l)) (o4 : w (sb q p) (sb r p) ≠ 0 ∨ 0 < dt (sb p r) (sb q r)) :
    (0 < w l p ∧ 0 < w l q) ∨ (0 < w p r ∧ 0 < w q r) := by
  have ep : w (sb r l) (sb p l) = w (sb r l) p - w r l := by simp only [w, sb]; grind
  have eq' : w (sb r l) (sb q l) = w (sb r l) q - w r l := by simp only [w, sb]; grind
  have el : w (sb q p) (sb l p) = w p q - w p l - w l q := by simp only [w, sb]; grind
  have er : w (sb q p) (sb r p) = w p q - w p r - w r q := by simp only [w, sb]; grind
  have nl : w (sb r l) l = w r l := by simp only [w, sb]; grind
  have nr : w (sb r l) r = w r l := by simp only [w, sb]; grind
  rw [ep] at mp o1
  rw [eq'] at mq
  rw [el] at kl o3
  rw [er] at kr o4
  have R1 := ray (n := sb r l) (N := w r l) (p := p) (q := q) (x := l) c0 nl (by omega) (by omega) hD (by omega) (by rcases o3 with h | h; exact .inl (by omega); exact .inr h)
  have R2 := ray (n := sb r l) (N := w r l) (p := p) (q := q) (x := r) c0 nr (by omega) (by omega) hD (by omega) (by rcases o4 with h | h; exact .inl (by omega); exact .inr h)
  have apl := anti p l
  have apr := anti p r
  have alq := anti l q
  have arq := anti r q
  have np : 0 < w (sb r l) p := by omega
  have nq : 0 < w (sb r l) q := by omega
  have nl' : 0 < w (sb r l) l := by omega
  have nr' : 0 < w (sb r l) r := by omega
  by_cases h1 : 0 < w l p
  · exact .inl ⟨h1, trans_lt1 (p := sb r l) (by omega) np nq h1 (by omega)⟩
  · have h2 : w l q < 0 := by
      apply Decidable.byContradiction
      intro hh
      exact R1 (by omega) (by omega)
    by_cases h3 : w r q < 0
    · have h4 : 0 < w q r := by omega
      exact .inr ⟨trans_lt1 (p := sb r l) (by omega) nq nr' hD (by omega), h4⟩
    · exfalso
      have h5 : 0 < w r p := by
        apply Decidable.byContradiction
        intro hh
        exact R2 (by omega) (by omega)
      have h6 : 0 ≤ w p l := by omega
      -- p lies in the cone
      have hn : w (sb r l) p = w r p + w p l := by simp only [w, sb]; grind
      have key : (w r p + w p l - w r l) * w p q = w p l * (w p q - w p r - w r q) + w r p * (w p q - w p l - w l q) := by simp only [w]; grind
      have k1 := Int.mul_nonneg h6 (by omega : 0 ≤ -(w p q - w p r - w r q))
      have k2 := Int.mul_nonneg (Int.le_of_lt h5) (by omega : 0 ≤ -(w p q - w p l - w l q))
      rw [Int.mul_neg] at k1 k2
      have k3 : w r p + w p l - w r l ≤ 0 := by
        apply Decidable.byContradiction
        intro hh
        have := Int.mul_pos (by omega : 0 < w r p + w p l - w r l) hD
        omega
      have es : w r l = w r p + w p l := by omega
      rcases o1 with o1 | o1
      · omega
      · have h1 : w r l * p.1 = w p l * r.1 + w r p * l.1 := by simp only [w]; grind
        have h2 : w r l * p.2 = w p l * r.2 + w r p * l.2 := by simp only [w]; grind
        have := mix (p := r) (q := l) (x := p) c0 (Int.le_of_lt h5) h6 es h1 h2
        have ec : dt (sb r p) (sb l p) = dt (sb l p) (sb r p) := by simp only [dt]; grind
        omega
end FP
namespace FP
abbrev Bd := Pt × Nat
def onGate (g : Gate) (p : Pt) : Bool := if cross g.1 g.2 p ≠ 0 then false else decide (dist g.1 p + dist p g.2 ≤ dist g.1 g.2)
def nearer (g : Gate) (p : Pt) : Pt := if dist g.1 p ≤ dist g.2 p then g.1 else g.2
def misses (A : Pt) (st : Option (Bd × Bd)) (l r : Pt) : Option Bd :=
  match st with
  | none => none
  | some (L, R) => if 0 < cross A L.1 r then some L else if cross A R.1 l < 0 then some R else none
def narrow (A : Pt) (st : Option (Bd × Bd)) (g : Gate) (at' : Nat) : Option (Bd × Bd) :=
  match st with
  | none => some ((g.1, at'), (g.2, at'))
  | some (L, R) => some (if cross A L.1 g.1 ≤ 0 then (g.1, at') else L, if 0 ≤ cross A R.1 g.2 then (g.2, at') else R)
def nb (A e : Pt) : Option (Bd × Bd) → Nat → List Gate → Option Bd
  | st, _, [] => misses A st e e
  | st, k, g :: gs =>
    if cross g.1 g.2 A = 0 then
      if st.isNone && onGate g A then nb A e st (k + 1) gs
      else match misses A st (nearer g A) (nearer g A) with
        | none => some (nearer g A, k)
        | some b => some b
    else match misses A st g.1 g.2 with
      | some b => some b
      | none => nb A e (narrow A st g k) (k + 1) gs
def nxt (e : Pt) : Option Bd → Pt
  | none => e
  | some b => b.1

structure Link (g h : Gate) : Prop where
  hl : 0 ≤ cross g.1 g.2 h.1
  hr : 0 ≤ cross g.1 g.2 h.2
  gl : cross h.1 h.2 g.1 ≤ 0
  gr : cross h.1 h.2 g.2 ≤ 0
  o1 : off g h.1
  o2 : off g h.2
  o3 : off h g.1
  o4 : off h g.2
def Chain (e : Pt) : Gate → List Gate → Prop
  | m, [] => 0 ≤ cross m.1 m.2 e
  | m, g :: gs => Link m g ∧ Chain e g gs

theorem onGate_off {g : Gate} {X : Pt} : onGate g X = false ↔ off g X := by
  unfold onGate off
  by_cases h : cross g.1 g.2 X = 0
  · rw [if_neg (by simpa using h)]
    have : dist g.1 g.2 = dist g.1 X + dist X g.2 - 2 * dt (sb g.1 X) (sb g.2 X) := by simp only [dist, dt, sb]; grind
    rw [this]
    simp [h]
    omega
  · rw [if_pos h]
    simp [h]

theorem w_rel (A a b x : Pt) : w (sb (sb b A) (sb a A)) (sb (sb x A) (sb a A)) = cross a b x := by simp only [w, sb, cross]; grind
theorem dt_rel (A a b x : Pt) : dt (sb (sb a A) (sb x A)) (sb (sb b A) (sb x A)) = dt (sb a x) (sb b x) := by simp only [dt, sb]; grind
theorem fr_eq (A : Pt) (m : Gate) (X : Pt) : w (sb m.2 m.1) (sb X A) = cross A m.2 X + cross A X m.1 := by simp only [w, sb, cross]; grind
theorem fr_D (A : Pt) (m : Gate) (X : Pt) : w (sb m.2 m.1) (sb X A) = cross m.1 m.2 X + cross A m.2 m.1 := by simp only [w, sb, cross]; grind
theorem cr_anti (A X Y : Pt) : cross A X Y = - cross A Y X := by simp only [cross]; grind
theorem cr_self (A X : Pt) : cross A X X = 0 := by simp only [cross]; grind
theorem cr_cyc (A X Y : Pt) : cross X Y A = cross A X Y := by simp only [cross]; grind
theorem cr_w (A X Y : Pt) : cross A X Y = w (sb X A) (sb Y A) := rfl

structure Inv (A : Pt) (m : Gate) (L R : Pt) : Prop where
  c0 : 0 < cross A m.2 m.1
  c1 : 0 ≤ cross A L m.1
  c2 : 0 ≤ cross A m.2 L
  c3 : 0 ≤ cross A R m.1
  c4 : 0 ≤ cross A m.2 R
  c5 : 0 ≤ cross A R L
  c6 : 0 < w (sb m.2 m.1) (sb L A)
  c7 : 0 < w (sb m.2 m.1) (sb R A)

/-- a gate seen from behind lies beside the cone -/
theorem vee {A : Pt} {m k : Gate} (c0 : 0 < cross A m.2 m.1) (K : Link m k) (hD : 0 < cross k.1 k.2 A) :
    (0 < cross A m.1 k.1 ∧ 0 < cross A m.1 k.2) ∨ (0 < cross A k.1 m.2 ∧ 0 < cross A k.2 m.2) := by
  have := vlem (l := sb m.1 A) (r := sb m.2 A) (p := sb k.1 A) (q := sb k.2 A) c0
    (by rw [w_rel]; exact K.hl) (by rw [w_rel]; exact K.hr) (by rw [w_rel]; exact K.gl) (by rw [w_rel]; exact K.gr)
    (by rw [← cr_w, ← cr_cyc]; exact hD)
    (by rw [w_rel, dt_rel]; exact K.o1) (by rw [w_rel, dt_rel]; exact K.o3) (by rw [w_rel, dt_rel]; exact K.o4)
  exact this

section
variable {A : Pt} {m k : Gate} {L R : Pt}
theorem fr1 (c0 : 0 < cross A m.2 m.1) : 0 < w (sb m.2 m.1) (sb m.1 A) := by rw [fr_eq, cr_self]; omega
theorem fr2 (c0 : 0 < cross A m.2 m.1) : 0 < w (sb m.2 m.1) (sb m.2 A) := by rw [fr_eq, cr_self]; omega
theorem frX (c0 : 0 < cross A m.2 m.1) {X : Pt} (h : 0 ≤ cross m.1 m.2 X) : 0 < w (sb m.2 m.1) (sb X A) := by rw [fr_D]; omega
/-- what is not missed is seen from before -/
theorem seen (I : Inv A m L R) (K : Link m k) (hne : cross k.1 k.2 A ≠ 0) (hL : cross A L k.2 ≤ 0) (hR : 0 ≤ cross A R k.1) : 0 < cross A k.2 k.1 := by
  have hk1 := frX I.c0 K.hl
  have hk2 := frX I.c0 K.hr
  have e1 := cr_cyc A k.1 k.2
  have e2 := cr_anti A k.1 k.2
  apply Decidable.byContradiction
  intro hn
  rcases vee I.c0 K (by omega) with ⟨h1, h2⟩ | ⟨h1, h2⟩
  · have := trans_lt2 (p := sb m.2 m.1) (x := sb L A) (y := sb m.1 A) (z := sb k.2 A) I.c6 (fr1 I.c0) (Int.le_of_lt hk2) I.c1 h2
    rw [← cr_w] at this
    omega
  · have := trans_lt1 (p := sb m.2 m.1) (x := sb k.1 A) (y := sb m.2 A) (z := sb R A) (Int.le_of_lt hk1) (fr2 I.c0) I.c7 h1 I.c4
    rw [← cr_w] at this
    have := cr_anti A k.1 R
    omega
theorem inv_step (I : Inv A m L R) (K : Link m k) (hne : cross k.1 k.2 A ≠ 0) (hL : cross A L k.2 ≤ 0) (hR : 0 ≤ cross A R k.1) :
    Inv A k (if cross A L k.1 ≤ 0 then k.1 else L) (if 0 ≤ cross A R k.2 then k.2 else R) := by
  have h0 := seen I K hne hL hR
  have a1 := cr_anti A L k.2
  have a2 := cr_anti A R k.2
  have s1 := cr_self A k.1
  have s2 := cr_self A k.2
  have f1 := fr_eq A k L
  have f2 := fr_eq A k R
  have c5 := I.c5
  constructor
  · exact h0
  · split <;> omega
  · split <;> omega
  · split <;> omega
  · split <;> omega
  · split <;> split <;> omega
  · split
    · exact fr1 h0
    · omega
  · split
    · exact fr2 h0
    · omega
/-- missed on the left: the whole gate is on the left -/
theorem miss_left (I : Inv A m L R) (K : Link m k) (hL : 0 < cross A L k.2) : 0 ≤ cross A L k.1 := by
  have hk1 := frX I.c0 K.hl
  have hk2 := frX I.c0 K.hr
  have e1 := cr_cyc A k.1 k.2
  have e2 := cr_anti A k.1 k.2
  by_cases hn : 0 < cross k.1 k.2 A
  · rcases vee I.c0 K (by omega) with ⟨h1, h2⟩ | ⟨h1, h2⟩
    · exact trans (p := sb m.2 m.1) (x := sb L A) (y := sb m.1 A) (z := sb k.1 A) (Int.le_of_lt I.c6) (fr1 I.c0) (Int.le_of_lt hk1) I.c1 (Int.le_of_lt h1)
    · have := trans_lt1 (p := sb m.2 m.1) (x := sb k.2 A) (y := sb m.2 A) (z := sb L A) (Int.le_of_lt hk2) (fr2 I.c0) I.c6 h2 I.c2
      rw [← cr_w] at this
      have := cr_anti A k.2 L
      omega
  · exact trans (p := sb m.2 m.1) (x := sb L A) (y := sb k.2 A) (z := sb k.1 A) (Int.le_of_lt I.c6) hk2 (Int.le_of_lt hk1) (Int.le_of_lt hL) (by rw [← cr_w]; omega)
theorem miss_right (I : Inv A m L R) (K : Link m k) (hR : cross A R k.1 < 0) : cross A R k.2 ≤ 0 := by
  have hk1 := frX I.c0 K.hl
  have hk2 := frX I.c0 K.hr
  have e1 := cr_cyc A k.1 k.2
  have e2 := cr_anti A k.1 k.2
  have e3 := cr_anti A R k.1
  have e4 := cr_anti A R k.2
  by_cases hn : 0 < cross k.1 k.2 A
  · rcases vee I.c0 K (by omega) with ⟨h1, h2⟩ | ⟨h1, h2⟩
    · have := trans_lt2 (p := sb m.2 m.1) (x := sb R A) (y := sb m.1 A) (z := sb k.1 A) I.c7 (fr1 I.c0) (Int.le_of_lt hk1) I.c3 h1
      rw [← cr_w] at this
      omega
    · have := trans (p := sb m.2 m.1) (x := sb k.2 A) (y := sb m.2 A) (z := sb R A) (Int.le_of_lt hk2) (fr2 I.c0) (Int.le_of_lt I.c7) (Int.le_of_lt h2) I.c4
      rw [← cr_w] at this
      omega
  · have := trans (p := sb m.2 m.1) (x := sb k.2 A) (y := sb k.1 A) (z := sb R A) (Int.le_of_lt hk2) hk1 (Int.le_of_lt I.c7) (by rw [← cr_w]; omega) (by rw [← cr_w]; omega)
    rw [← cr_w] at this
    omega
end

theorem sqz {a : Int} (h : a * a = 0) : a = 0 := by
  rcases Int.mul_eq_zero.mp h with h | h <;> exact h
/-! ### near ends -/
theorem near_or (g : Gate) (A : Pt) : (nearer g A = g.1 ∧ dist g.1 A ≤ dist g.2 A) ∨ (nearer g A = g.2 ∧ dist g.2 A ≤ dist g.1 A) := by
  unfold nearer
  split
  · exact .inl ⟨rfl, by assumption⟩
  · exact .inr ⟨rfl, by omega⟩
theorem dt_front {p n o : Pt} (h0 : w n o = 0) (hn : 0 < w p n) (ho : 0 < w p o) : 0 < dt n o := by
  have e1 : w p n * o.1 = w p o * n.1 := by
    have : w p n * o.1 = w p o * n.1 - w n o * p.1 := by simp only [w]; grind
    rw [this, h0, Int.zero_mul]; omega
  have e2 : w p n * o.2 = w p o * n.2 := by
    have : w p n * o.2 = w p o * n.2 - w n o * p.2 := by simp only [w]; grind
    rw [this, h0, Int.zero_mul]; omega
  have key : w p n * dt n o = w p o * (n.1 * n.1 + n.2 * n.2) := by
    have : w p n * dt n o = n.1 * (w p n * o.1) + n.2 * (w p n * o.2) := by simp only [dt]; grind
    rw [this, e1, e2]; grind
  have hnn : 0 < n.1 * n.1 + n.2 * n.2 := by
    have s1 := sq0 n.1
    have s2 := sq0 n.2
    apply Decidable.byContradiction
    intro hh
    have z1 : n.1 = 0 := by
      have : n.1 * n.1 = 0 := by omega
      exact sqz this
    have z2 : n.2 = 0 := by
      have : n.2 * n.2 = 0 := by omega
      exact sqz this
    have : w p n = 0 := by simp only [w, z1, z2]; omega
    omega
  have hp := Int.mul_pos ho hnn
  rw [← key, Int.mul_comm] at hp
  exact pos_of_mul hp hn
theorem dt_grow {n o : Pt} (h0 : w n o = 0) (hd : 0 < dt n o) (hl : n.1 * n.1 + n.2 * n.2 ≤ o.1 * o.1 + o.2 * o.2) (hne : n ≠ o) : 0 < dt n (sb o n) := by
  have e : dt n (sb o n) = dt n o - (n.1 * n.1 + n.2 * n.2) := by simp only [dt, sb]; grind
  have lag : dt n o * dt n o + w n o * w n o = (n.1 * n.1 + n.2 * n.2) * (o.1 * o.1 + o.2 * o.2) := by simp only [dt, w]; grind
  rw [h0] at lag
  have s1 := sq0 n.1
  have s2 := sq0 n.2
  rw [e]
  apply Decidable.byContradiction
  intro hh
  have hle : dt n o ≤ n.1 * n.1 + n.2 * n.2 := by omega
  have h1 : dt n o * dt n o ≤ (n.1 * n.1 + n.2 * n.2) * (n.1 * n.1 + n.2 * n.2) := Int.mul_le_mul hle hle (Int.le_of_lt hd) (by omega)
  have h2 : (n.1 * n.1 + n.2 * n.2) * (n.1 * n.1 + n.2 * n.2) ≤ (n.1 * n.1 + n.2 * n.2) * (o.1 * o.1 + o.2 * o.2) := Int.mul_le_mul_of_nonneg_left hl (by omega)
  have h3 : (n.1 * n.1 + n.2 * n.2) * (n.1 * n.1 + n.2 * n.2) = (n.1 * n.1 + n.2 * n.2) * (o.1 * o.1 + o.2 * o.2) := by omega
  have hn0 : n.1 * n.1 + n.2 * n.2 ≠ 0 := by omega
  have h4 : n.1 * n.1 + n.2 * n.2 = o.1 * o.1 + o.2 * o.2 := Int.eq_of_mul_eq_mul_left hn0 h3
  have h5 : dt n o * dt n o = (n.1 * n.1 + n.2 * n.2) * (n.1 * n.1 + n.2 * n.2) := by omega
  have h6 : dt n o = n.1 * n.1 + n.2 * n.2 := by
    apply Decidable.byContradiction
    intro hx
    have hlt : dt n o < n.1 * n.1 + n.2 * n.2 := by omega
    have := Int.mul_lt_mul hlt (Int.le_of_lt hlt) hd (by omega)
    omega
  have h7 : (n.1 - o.1) * (n.1 - o.1) + (n.2 - o.2) * (n.2 - o.2) = 0 := by
    have : (n.1 - o.1) * (n.1 - o.1) + (n.2 - o.2) * (n.2 - o.2) = (n.1 * n.1 + n.2 * n.2) + (o.1 * o.1 + o.2 * o.2) - 2 * dt n o := by simp only [dt]; grind
    omega
  have t1 := sq0 (n.1 - o.1)
  have t2 := sq0 (n.2 - o.2)
  have u1 : n.1 - o.1 = 0 := sqz (by omega)
  have u2 : n.2 - o.2 = 0 := sqz (by omega)
  exact hne (Prod.ext (by omega) (by omega))
end FP
namespace FP
def MissL (e A L : Pt) : List Gate → Prop
  | [] => 0 < cross A L e
  | g :: gs => (0 < cross A L g.2 ∧ 0 ≤ cross A L g.1) ∨ (0 < cross A L g.1 ∧ cross A L g.2 ≤ 0 ∧ MissL e A L gs)
def MissR (e A R : Pt) : List Gate → Prop
  | [] => cross A R e < 0
  | g :: gs => (cross A R g.1 < 0 ∧ cross A R g.2 ≤ 0) ∨ (cross A R g.2 < 0 ∧ 0 ≤ cross A R g.1 ∧ MissR e A R gs)
def BendAt (e A B : Pt) (g : Gate) (gs : List Gate) : Prop :=
  (B = g.1 ∧ cross g.1 g.2 A < 0 ∧ MissL e A B gs) ∨ (B = g.2 ∧ cross g.1 g.2 A < 0 ∧ MissR e A B gs) ∨
  (B = g.1 ∧ cross g.1 g.2 A = 0 ∧ 0 < dt (sb B A) (sb g.2 g.1)) ∨ (B = g.2 ∧ cross g.1 g.2 A = 0 ∧ 0 < dt (sb B A) (sb g.1 g.2))

theorem sb_sb (a b A : Pt) : sb (sb a A) (sb b A) = sb a b := by
  simp only [sb]; exact Prod.ext (by show a.1 - A.1 - (b.1 - A.1) = a.1 - b.1; omega) (by show a.2 - A.2 - (b.2 - A.2) = a.2 - b.2; omega)
theorem sb_ne {a b A : Pt} (h : a ≠ b) : sb a A ≠ sb b A := fun q => h (by
  simp only [sb, Prod.mk.injEq] at q
  exact Prod.ext (by omega) (by omega))
theorem dist_sb (a A : Pt) : (sb a A).1 * (sb a A).1 + (sb a A).2 * (sb a A).2 = dist a A := rfl

theorem near_bend {A : Pt} {g : Gate} {gs : List Gate} {e : Pt} (hg : g.1 ≠ g.2) (h0 : cross g.1 g.2 A = 0) (hd : 0 < dt (sb g.1 A) (sb g.2 A)) : BendAt e A (nearer g A) g gs := by
  have c1 : w (sb g.1 A) (sb g.2 A) = 0 := by rw [← cr_w, ← cr_cyc]; exact h0
  have c2 : w (sb g.2 A) (sb g.1 A) = 0 := by rw [anti]; omega
  have hd' : 0 < dt (sb g.2 A) (sb g.1 A) := by
    have : dt (sb g.2 A) (sb g.1 A) = dt (sb g.1 A) (sb g.2 A) := by simp only [dt]; grind
    omega
  rcases near_or g A with ⟨e1, e2⟩ | ⟨e1, e2⟩
  · have := dt_grow c1 hd (by rw [dist_sb, dist_sb]; exact e2) (sb_ne hg)
    rw [sb_sb] at this
    exact .inr (.inr (.inl ⟨e1, h0, by rw [e1]; exact this⟩))
  · have := dt_grow c2 hd' (by rw [dist_sb, dist_sb]; exact e2) (sb_ne (Ne.symm hg))
    rw [sb_sb] at this
    exact .inr (.inr (.inr ⟨e1, h0, by rw [e1]; exact this⟩))

section
variable {A : Pt} {m k : Gate} {L R : Pt}
theorem coll_left (I : Inv A m L R) (K : Link m k) (h0 : cross k.1 k.2 A = 0) (h : 0 < cross A L (nearer k A)) : 0 < cross A L k.2 ∧ 0 < cross A L k.1 := by
  have hk1 := frX I.c0 K.hl
  have hk2 := frX I.c0 K.hr
  have e1 := cr_cyc A k.1 k.2
  have e2 := cr_anti A k.1 k.2
  rcases near_or k A with ⟨e, _⟩ | ⟨e, _⟩ <;> rw [e] at h
  · exact ⟨trans_lt1 (p := sb m.2 m.1) (x := sb L A) (y := sb k.1 A) (z := sb k.2 A) (Int.le_of_lt I.c6) hk1 hk2 h (by rw [← cr_w]; omega), h⟩
  · exact ⟨h, trans_lt1 (p := sb m.2 m.1) (x := sb L A) (y := sb k.2 A) (z := sb k.1 A) (Int.le_of_lt I.c6) hk2 hk1 h (by rw [← cr_w]; omega)⟩
theorem coll_right (I : Inv A m L R) (K : Link m k) (h0 : cross k.1 k.2 A = 0) (h : cross A R (nearer k A) < 0) : cross A R k.1 < 0 ∧ cross A R k.2 < 0 := by
  have hk1 := frX I.c0 K.hl
  have hk2 := frX I.c0 K.hr
  have e1 := cr_cyc A k.1 k.2
  have e2 := cr_anti A k.1 k.2
  have e3 := cr_anti A R k.1
  have e4 := cr_anti A R k.2
  rcases near_or k A with ⟨e, _⟩ | ⟨e, _⟩ <;> rw [e] at h
  · have := trans_lt2 (p := sb m.2 m.1) (x := sb k.2 A) (y := sb k.1 A) (z := sb R A) hk2 hk1 (Int.le_of_lt I.c7) (by rw [← cr_w]; omega) (by rw [← cr_w]; omega)
    rw [← cr_w] at this
    omega
  · have := trans_lt2 (p := sb m.2 m.1) (x := sb k.1 A) (y := sb k.2 A) (z := sb R A) hk1 hk2 (Int.le_of_lt I.c7) (by rw [← cr_w]; omega) (by rw [← cr_w]; omega)
    rw [← cr_w] at this
    omega
theorem coll_front (I : Inv A m L R) (K : Link m k) (h0 : cross k.1 k.2 A = 0) : 0 < dt (sb k.1 A) (sb k.2 A) :=
  dt_front (p := sb m.2 m.1) (by rw [← cr_w, ← cr_cyc]; exact h0) (frX I.c0 K.hl) (frX I.c0 K.hr)
end

theorem nb_some (A e : Pt) : ∀ (gs : List Gate) (m : Gate) (L R : Pt) (i j k : Nat), Inv A m L R → Chain e m gs → (∀ g ∈ gs, g.1 ≠ g.2) →
    nb A e (some ((L, i), (R, j))) k gs = none ∨
    (nb A e (some ((L, i), (R, j))) k gs = some (L, i) ∧ MissL e A L gs) ∨
    (nb A e (some ((L, i), (R, j))) k gs = some (R, j) ∧ MissR e A R gs) ∨
    ∃ gs1 g gs2 B, gs = gs1 ++ g :: gs2 ∧ nb A e (some ((L, i), (R, j))) k gs = some (B, k + gs1.length) ∧ BendAt e A B g gs2
  | [], m, L, R, i, j, k, I, C, hN => by
    simp only [nb, misses]
    by_cases h1 : 0 < cross A L e
    · rw [if_pos h1]
      exact .inr (.inl ⟨rfl, h1⟩)
    · rw [if_neg h1]
      by_cases h2 : cross A R e < 0
      · rw [if_pos h2]
        exact .inr (.inr (.inl ⟨rfl, h2⟩))
      · rw [if_neg h2]
        exact .inl rfl
  | g :: gs, m, L, R, i, j, k, I, C, hN => by
    have K := C.1
    have hg := hN g (List.mem_cons_self ..)
    simp only [nb, Option.isNone, Bool.false_and, Bool.false_eq_true, if_false]
    by_cases h0 : cross g.1 g.2 A = 0
    · rw [if_pos h0]
      simp only [misses]
      by_cases h1 : 0 < cross A L (nearer g A)
      · rw [if_pos h1]
        have := coll_left I K h0 h1
        exact .inr (.inl ⟨rfl, .inl ⟨this.1, Int.le_of_lt this.2⟩⟩)
      · rw [if_neg h1]
        by_cases h2 : cross A R (nearer g A) < 0
        · rw [if_pos h2]
          have := coll_right I K h0 h2
          exact .inr (.inr (.inl ⟨rfl, .inl ⟨this.1, Int.le_of_lt this.2⟩⟩))
        · rw [if_neg h2]
          exact .inr (.inr (.inr ⟨[], g, gs, _, rfl, rfl, near_bend hg h0 (coll_front I K h0)⟩))
    · rw [if_neg h0]
      simp only [misses]
      by_cases h1 : 0 < cross A L g.2
      · rw [if_pos h1]
        exact .inr (.inl ⟨rfl, .inl ⟨h1, miss_left I K h1⟩⟩)
      · rw [if_neg h1]
        by_cases h2 : cross A R g.1 < 0
        · rw [if_pos h2]
          exact .inr (.inr (.inl ⟨rfl, .inl ⟨h2, miss_right I K h2⟩⟩))
        · rw [if_neg h2]
          have hs := seen I K h0 (by omega) (by omega)
          have hD : cross g.1 g.2 A < 0 := by
            rw [cr_cyc, cr_anti]; omega
          have I' := inv_step I K h0 (by omega) (by omega)
          have hN' : ∀ g ∈ gs, g.1 ≠ g.2 := fun x hx => hN x (List.mem_cons_of_mem _ hx)
          simp only [narrow]
          have ih := nb_some A e gs g
          by_cases h3 : cross A L g.1 ≤ 0 <;> by_cases h4 : 0 ≤ cross A R g.2
          all_goals
            simp only [h3, h4, if_true, if_false] at I' ⊢
            rcases ih _ _ _ _ (k + 1) I' C.2 hN' with q | ⟨q, z⟩ | ⟨q, z⟩ | ⟨gs1, g', gs2, B, q1, q2, q3⟩
          all_goals first
            | exact .inl q
            | exact .inr (.inr (.inr ⟨g :: gs1, g', gs2, B, by rw [q1]; rfl, by rw [q2, List.length_cons]; congr 2; omega, q3⟩))
            | exact .inr (.inr (.inr ⟨[], g, gs, _, rfl, q, .inl ⟨rfl, hD, z⟩⟩))
            | exact .inr (.inr (.inr ⟨[], g, gs, _, rfl, q, .inr (.inl ⟨rfl, hD, z⟩)⟩))
            | exact .inr (.inl ⟨q, .inr ⟨by omega, by omega, z⟩⟩)
            | exact .inr (.inr (.inl ⟨q, .inr ⟨by omega, by omega, z⟩⟩))

/-! ### from a point alone -/
def Before (A : Pt) : List Gate → Prop
  | [] => True
  | g :: _ => cross g.1 g.2 A ≤ 0
def CH (e : Pt) : List Gate → Prop
  | [] => True
  | g :: gs => Chain e g gs
theorem before_next {g h : Gate} {A : Pt} (hg : g.1 ≠ g.2) (K : Link g h) (h0 : cross g.1 g.2 A = 0) (hd : dt (sb g.1 A) (sb g.2 A) ≤ 0) : cross h.1 h.2 A ≤ 0 := by
  have u0 : 0 < dist g.1 g.2 := by
    have s1 := sq0 (g.1.1 - g.2.1)
    have s2 := sq0 (g.1.2 - g.2.2)
    apply Decidable.byContradiction
    intro hh
    have hx : dist g.1 g.2 = (g.1.1 - g.2.1) * (g.1.1 - g.2.1) + (g.1.2 - g.2.2) * (g.1.2 - g.2.2) := rfl
    have u1 : g.1.1 - g.2.1 = 0 := sqz (by omega)
    have u2 : g.1.2 - g.2.2 = 0 := sqz (by omega)
    exact hg (Prod.ext (by omega) (by omega))
  have ea : dt (sb g.2 A) (sb g.2 g.1) = dist g.2 A - dt (sb g.1 A) (sb g.2 A) := by simp only [dt, sb, dist]; grind
  have eb : dt (sb A g.1) (sb g.2 g.1) = dist g.1 A - dt (sb g.1 A) (sb g.2 A) := by simp only [dt, sb, dist]; grind
  have d1 : 0 ≤ dist g.1 A := Int.add_nonneg (sq0 _) (sq0 _)
  have d2 : 0 ≤ dist g.2 A := Int.add_nonneg (sq0 _) (sq0 _)
  have id1 : dist g.1 g.2 * cross h.1 h.2 A = dt (sb g.2 A) (sb g.2 g.1) * cross h.1 h.2 g.1 + dt (sb A g.1) (sb g.2 g.1) * cross h.1 h.2 g.2
      + cross g.1 g.2 A * dt (sb h.2 h.1) (sb g.2 g.1) := by simp only [dt, sb, dist, cross]; grind
  rw [h0, Int.zero_mul] at id1
  have k1 := Int.mul_nonneg (by omega : 0 ≤ dt (sb g.2 A) (sb g.2 g.1)) (by have := K.gl; omega : 0 ≤ - cross h.1 h.2 g.1)
  have k2 := Int.mul_nonneg (by omega : 0 ≤ dt (sb A g.1) (sb g.2 g.1)) (by have := K.gr; omega : 0 ≤ - cross h.1 h.2 g.2)
  rw [Int.mul_neg] at k1 k2
  apply Decidable.byContradiction
  intro hh
  have := Int.mul_pos u0 (by omega : 0 < cross h.1 h.2 A)
  omega
theorem inv_first {A : Pt} {g : Gate} (h : cross g.1 g.2 A < 0) : Inv A g g.1 g.2 := by
  have h0 : 0 < cross A g.2 g.1 := by rw [cr_anti, ← cr_cyc]; omega
  have s1 := cr_self A g.1
  have s2 := cr_self A g.2
  exact ⟨h0, by omega, by omega, by omega, by omega, by omega, fr1 h0, fr2 h0⟩
theorem nb_none (A e : Pt) : ∀ (gs : List Gate) (k : Nat), Before A gs → CH e gs → (∀ g ∈ gs, g.1 ≠ g.2) →
    nb A e none k gs = none ∨ ∃ gs1 g gs2 B, gs = gs1 ++ g :: gs2 ∧ nb A e none k gs = some (B, k + gs1.length) ∧ BendAt e A B g gs2
  | [], k, _, _, _ => .inl rfl
  | g :: gs, k, hb, C, hN => by
    have hg := hN g (List.mem_cons_self ..)
    have hN' : ∀ g ∈ gs, g.1 ≠ g.2 := fun x hx => hN x (List.mem_cons_of_mem _ hx)
    have hb' : cross g.1 g.2 A ≤ 0 := hb
    simp only [nb, Option.isNone, Bool.true_and]
    by_cases h0 : cross g.1 g.2 A = 0
    · rw [if_pos h0]
      by_cases h1 : onGate g A = true
      · rw [if_pos h1]
        have hno : ¬ off g A := fun q => by
          rw [onGate_off.mpr q] at h1
          cases h1
        have hB : Before A gs := by
          cases gs with
          | nil => trivial
          | cons h r => exact before_next hg C.1 h0 (by
              apply Decidable.byContradiction
              intro hh
              exact hno (.inr (by omega)))
        have hC : CH e gs := by
          cases gs with
          | nil => trivial
          | cons h r => exact C.2
        rcases nb_none A e gs (k + 1) hB hC hN' with q | ⟨gs1, g', gs2, B, q1, q2, q3⟩
        · exact .inl q
        · exact .inr ⟨g :: gs1, g', gs2, B, by rw [q1]; rfl, by rw [q2, List.length_cons]; congr 2; omega, q3⟩
      · rw [if_neg h1]
        have h2 : onGate g A = false := by simpa using h1
        rcases onGate_off.mp h2 with hh | hh
        · exact absurd h0 hh
        · simp only [misses]
          exact .inr ⟨[], g, gs, _, rfl, rfl, near_bend hg h0 hh⟩
    · rw [if_neg h0]
      have hD : cross g.1 g.2 A < 0 := by omega
      simp only [misses, narrow]
      rcases nb_some A e gs g g.1 g.2 k k (k + 1) (inv_first hD) C hN' with q | ⟨q, z⟩ | ⟨q, z⟩ | ⟨gs1, g', gs2, B, q1, q2, q3⟩
      · exact .inl q
      · exact .inr ⟨[], g, gs, _, rfl, q, .inl ⟨rfl, hD, z⟩⟩
      · exact .inr ⟨[], g, gs, _, rfl, q, .inr (.inl ⟨rfl, hD, z⟩)⟩
      · exact .inr ⟨g :: gs1, g', gs2, B, by rw [q1]; rfl, by rw [q2, List.length_cons]; congr 2; omega, q3⟩
end FP
namespace FP
/-! ### the next point lies in every half plane of the first gate -/
theorem near_cases {P : Pt → Prop} {g : Gate} {A : Pt} (h1 : P g.1) (h2 : P g.2) : P (nearer g A) := by
  unfold nearer; split <;> assumption
theorem hp_some (A e h : Pt) : ∀ (gs : List Gate) (m : Gate) (L R : Pt) (i j k : Nat), Inv A m L R → Chain e m gs →
    0 ≤ w h (sb L A) → 0 ≤ w h (sb R A) → 0 ≤ w h (sb (nxt e (nb A e (some ((L, i), (R, j))) k gs)) A)
  | [], m, L, R, i, j, k, I, C, hL, hR => by
    simp only [nb, misses]
    by_cases h1 : 0 < cross A L e
    · rw [if_pos h1]; exact hL
    · rw [if_neg h1]
      by_cases h2 : cross A R e < 0
      · rw [if_pos h2]; exact hR
      · rw [if_neg h2]
        have := cr_anti A L e
        exact two (p := sb m.2 m.1) (L := sb L A) (R := sb R A) (x := sb e A) I.c6 I.c7 (frX I.c0 C) (by rw [← cr_w]; omega) (by rw [← cr_w]; omega) hR hL
  | g :: gs, m, L, R, i, j, k, I, C, hL, hR => by
    have K := C.1
    have hk1 := frX I.c0 K.hl
    have hk2 := frX I.c0 K.hr
    simp only [nb, Option.isNone, Bool.false_and, Bool.false_eq_true, if_false]
    by_cases h0 : cross g.1 g.2 A = 0
    · rw [if_pos h0]
      simp only [misses]
      by_cases h1 : 0 < cross A L (nearer g A)
      · rw [if_pos h1]; exact hL
      · rw [if_neg h1]
        by_cases h2 : cross A R (nearer g A) < 0
        · rw [if_pos h2]; exact hR
        · rw [if_neg h2]
          have := cr_anti A L (nearer g A)
          exact two (p := sb m.2 m.1) (L := sb L A) (R := sb R A) (x := sb (nearer g A) A) I.c6 I.c7 (near_cases (P := fun X => 0 < w (sb m.2 m.1) (sb X A)) hk1 hk2) (by rw [← cr_w]; omega) (by rw [← cr_w]; omega) hR hL
    · rw [if_neg h0]
      simp only [misses]
      by_cases h1 : 0 < cross A L g.2
      · rw [if_pos h1]; exact hL
      · rw [if_neg h1]
        by_cases h2 : cross A R g.1 < 0
        · rw [if_pos h2]; exact hR
        · rw [if_neg h2]
          have I' := inv_step I K h0 (by omega) (by omega)
          simp only [narrow]
          have a1 := cr_anti A L g.1
          have a2 := cr_anti A L g.2
          have b1 : cross A L g.1 ≤ 0 → 0 ≤ w h (sb g.1 A) := fun q =>
            two (p := sb m.2 m.1) (L := sb L A) (R := sb R A) I.c6 I.c7 hk1 (by rw [← cr_w]; omega) (by rw [← cr_w]; omega) hR hL
          have b2 : 0 ≤ cross A R g.2 → 0 ≤ w h (sb g.2 A) := fun q =>
            two (p := sb m.2 m.1) (L := sb L A) (R := sb R A) I.c6 I.c7 hk2 (by rw [← cr_w]; omega) (by rw [← cr_w]; omega) hR hL
          have ih := hp_some A e h gs g
          by_cases h3 : cross A L g.1 ≤ 0 <;> by_cases h4 : 0 ≤ cross A R g.2
          all_goals
            simp only [h3, h4, if_true, if_false] at I' ⊢
            exact ih _ _ _ _ (k + 1) I' C.2 (by first | exact b1 h3 | exact hL) (by first | exact b2 h4 | exact hR)
/-- from a point that is not on the first gate -/
theorem hp_none (A e h : Pt) (gs : List Gate) (k : Nat) (hb : Before A gs) (C : CH e gs)
    (ho : ∀ g r, gs = g :: r → off g A) (hn : gs = [] → 0 ≤ w h (sb e A)) (hc : ∀ g r, gs = g :: r → 0 ≤ w h (sb g.1 A) ∧ 0 ≤ w h (sb g.2 A)) :
    0 ≤ w h (sb (nxt e (nb A e none k gs)) A) := by
  cases gs with
  | nil => exact hn rfl
  | cons g gs =>
    have hb' : cross g.1 g.2 A ≤ 0 := hb
    obtain ⟨c1, c2⟩ := hc g gs rfl
    have o := onGate_off.mpr (ho g gs rfl)
    simp only [nb, Option.isNone, Bool.true_and, o, Bool.false_eq_true, if_false, misses, narrow]
    by_cases h0 : cross g.1 g.2 A = 0
    · rw [if_pos h0]
      exact near_cases (P := fun X => 0 ≤ w h (sb X A)) c1 c2
    · rw [if_neg h0]
      exact hp_some A e h gs g g.1 g.2 k k (k + 1) (inv_first (by omega)) C c1 c2
/-! ### the next point behind a left bend: to the left of the direction d in which the string came -/
def ML (e B d : Pt) : List Gate → Prop
  | [] => 0 < w d (sb e B)
  | g :: gs => (0 < w d (sb g.2 B) ∧ 0 ≤ w d (sb g.1 B)) ∨ (0 < w d (sb g.1 B) ∧ w d (sb g.2 B) ≤ 0 ∧ ML e B d gs)
theorem ph_left (B e d : Pt) : ∀ (gs : List Gate) (m : Gate) (L R : Pt) (i j k : Nat), Inv B m L R → Chain e m gs →
    0 ≤ w d (sb L B) → w d (sb R B) ≤ 0 → 0 < w (sb m.2 m.1) d → ML e B d gs → 0 ≤ w d (sb (nxt e (nb B e (some ((L, i), (R, j))) k gs)) B)
  | [], m, L, R, i, j, k, I, C, hL, hR, hd, M => by
    have hX : 0 < w d (sb e B) := M
    have hf := frX I.c0 C
    have hRe := trans (p := sb m.2 m.1) (x := sb R B) (y := d) (z := sb e B) (Int.le_of_lt I.c7) hd (Int.le_of_lt hf) (by rw [anti]; omega) (Int.le_of_lt hX)
    rw [← cr_w] at hRe
    simp only [nb, misses]
    by_cases h1 : 0 < cross B L e
    · rw [if_pos h1]; exact hL
    · rw [if_neg h1, if_neg (by omega)]
      exact Int.le_of_lt hX
  | g :: gs, m, L, R, i, j, k, I, C, hL, hR, hd, M => by
    have K := C.1
    have hk1 := frX I.c0 K.hl
    have hk2 := frX I.c0 K.hr
    have dR := anti d (sb R B)
    have right : ∀ X : Pt, 0 < w (sb m.2 m.1) (sb X B) → 0 ≤ w d (sb X B) → 0 ≤ cross B R X := fun X hf hX =>
      trans (p := sb m.2 m.1) (x := sb R B) (y := d) (z := sb X B) (Int.le_of_lt I.c7) hd (Int.le_of_lt hf) (by rw [anti]; omega) hX
    simp only [nb, Option.isNone, Bool.false_and, Bool.false_eq_true, if_false]
    rcases M with ⟨M2, M1⟩ | ⟨M1, M2, M3⟩
    · have n1 : 0 ≤ w d (sb (nearer g B) B) := near_cases (P := fun X => 0 ≤ w d (sb X B)) M1 (Int.le_of_lt M2)
      have n2 := right _ (near_cases (P := fun X => 0 < w (sb m.2 m.1) (sb X B)) hk1 hk2) n1
      have r1 := right _ hk1 M1
      have r2 := right _ hk2 (Int.le_of_lt M2)
      by_cases h0 : cross g.1 g.2 B = 0
      · rw [if_pos h0]
        simp only [misses]
        by_cases h1 : 0 < cross B L (nearer g B)
        · rw [if_pos h1]; exact hL
        · rw [if_neg h1, if_neg (by omega)]
          exact n1
      · rw [if_neg h0]
        simp only [misses]
        by_cases h1 : 0 < cross B L g.2
        · rw [if_pos h1]; exact hL
        · rw [if_neg h1, if_neg (by omega)]
          have I' := inv_step I K h0 (by omega) (by omega)
          rw [if_pos r2] at I'
          simp only [narrow]
          rw [if_pos r2]
          by_cases h3 : cross B L g.1 ≤ 0
          all_goals
            simp only [h3, if_true, if_false] at I' ⊢
            exact hp_some B e d gs g _ _ _ _ (k + 1) I' C.2 (by first | exact M1 | exact hL) (Int.le_of_lt M2)
    · have d2 := anti d (sb g.2 B)
      have hs := trans_lt2 (p := sb m.2 m.1) (x := sb g.2 B) (y := d) (z := sb g.1 B) hk2 hd (Int.le_of_lt hk1) (by omega) M1
      rw [← cr_w] at hs
      have hl := trans (p := sb m.2 m.1) (x := sb g.2 B) (y := d) (z := sb L B) (Int.le_of_lt hk2) hd (Int.le_of_lt I.c6) (by omega) hL
      rw [← cr_w] at hl
      have hr := right _ hk1 (Int.le_of_lt M1)
      have a1 := cr_anti B L g.2
      have e1 := cr_cyc B g.1 g.2
      have e2 := cr_anti B g.1 g.2
      have h0 : cross g.1 g.2 B ≠ 0 := by omega
      have I' := inv_step I K h0 (by omega) (by omega)
      rw [if_neg h0]
      simp only [misses]
      rw [if_neg (by omega), if_neg (by omega)]
      simp only [narrow]
      have ih := ph_left B e d gs g
      have hd' : 0 < w (sb g.2 g.1) d := by
        have : w (sb g.2 g.1) d = w d (sb g.1 B) - w d (sb g.2 B) := by simp only [w, sb]; grind
        omega
      by_cases h3 : cross B L g.1 ≤ 0 <;> by_cases h4 : 0 ≤ cross B R g.2
      all_goals
        simp only [h3, h4, if_true, if_false] at I' ⊢
        exact ih _ _ _ _ (k + 1) I' C.2 (by first | exact Int.le_of_lt M1 | exact hL) (by first | exact M2 | exact hR) hd' M3
theorem ph_left0 (B e d : Pt) (gs : List Gate) (k : Nat) (hb : Before B gs) (C : CH e gs) (ho : ∀ g r, gs = g :: r → off g B)
    (M : ML e B d gs) : 0 ≤ w d (sb (nxt e (nb B e none k gs)) B) := by
  cases gs with
  | nil => exact Int.le_of_lt M
  | cons g gs =>
    have hb' : cross g.1 g.2 B ≤ 0 := hb
    rcases M with ⟨M2, M1⟩ | ⟨M1, M2, M3⟩
    · exact hp_none B e d (g :: gs) k hb C ho (by intro q; cases q) (fun g' r q => by cases q; exact ⟨M1, Int.le_of_lt M2⟩)
    · have o := onGate_off.mpr (ho g gs rfl)
      have h0 : cross g.1 g.2 B ≠ 0 := fun q => by
        rcases ho g gs rfl with z | z
        · exact z q
        · have hw : w (sb g.1 B) (sb g.2 B) = 0 := by rw [← cr_w, ← cr_cyc]; exact q
          have key : dt (sb g.1 B) (sb g.2 B) * w d (sb g.1 B) = ((sb g.1 B).1 * (sb g.1 B).1 + (sb g.1 B).2 * (sb g.1 B).2) * w d (sb g.2 B)
              - w (sb g.1 B) (sb g.2 B) * dt d (sb g.1 B) := by simp only [dt, w]; grind
          rw [hw, Int.zero_mul] at key
          have k1 := Int.mul_pos z M1
          have k2 := Int.mul_nonneg (Int.add_nonneg (sq0 (sb g.1 B).1) (sq0 (sb g.1 B).2)) (by omega : 0 ≤ - w d (sb g.2 B))
          rw [Int.mul_neg] at k2
          omega
      simp only [nb, Option.isNone, Bool.true_and, o, Bool.false_eq_true, if_false, misses, narrow]
      rw [if_neg h0]
      refine ph_left B e d gs g g.1 g.2 k k (k + 1) (inv_first (by omega)) C (Int.le_of_lt M1) M2 ?_ M3
      have : w (sb g.2 g.1) d = w d (sb g.1 B) - w d (sb g.2 B) := by simp only [w, sb]; grind
      omega
/-! ### .. a right bend -/
def MR (e B d : Pt) : List Gate → Prop
  | [] => w d (sb e B) < 0
  | g :: gs => (w d (sb g.1 B) < 0 ∧ w d (sb g.2 B) ≤ 0) ∨ (w d (sb g.2 B) < 0 ∧ 0 ≤ w d (sb g.1 B) ∧ MR e B d gs)
def ng (d : Pt) : Pt := (-d.1, -d.2)
theorem w_ng (d x : Pt) : w (ng d) x = - w d x := by simp only [w, ng]; grind
theorem ph_right (B e d : Pt) : ∀ (gs : List Gate) (m : Gate) (L R : Pt) (i j k : Nat), Inv B m L R → Chain e m gs →
    0 ≤ w d (sb L B) → w d (sb R B) ≤ 0 → 0 < w (sb m.2 m.1) d → MR e B d gs → w d (sb (nxt e (nb B e (some ((L, i), (R, j))) k gs)) B) ≤ 0
  | [], m, L, R, i, j, k, I, C, hL, hR, hd, M => by
    have hX : w d (sb e B) < 0 := M
    have dX := anti d (sb e B)
    have hf := frX I.c0 C
    have hRe := trans (p := sb m.2 m.1) (x := sb e B) (y := d) (z := sb L B) (Int.le_of_lt hf) hd (Int.le_of_lt I.c6) (by omega) hL
    rw [← cr_w] at hRe
    have := cr_anti B L e
    simp only [nb, misses]
    rw [if_neg (by omega)]
    by_cases h1 : cross B R e < 0
    · rw [if_pos h1]; exact hR
    · rw [if_neg h1]
      exact Int.le_of_lt hX
  | g :: gs, m, L, R, i, j, k, I, C, hL, hR, hd, M => by
    have K := C.1
    have hk1 := frX I.c0 K.hl
    have hk2 := frX I.c0 K.hr
    have left : ∀ X : Pt, 0 < w (sb m.2 m.1) (sb X B) → w d (sb X B) ≤ 0 → cross B L X ≤ 0 := fun X hf hX => by
      have := trans (p := sb m.2 m.1) (x := sb X B) (y := d) (z := sb L B) (Int.le_of_lt hf) hd (Int.le_of_lt I.c6) (by rw [anti]; omega) hL
      rw [← cr_w] at this
      have := cr_anti B L X
      omega
    simp only [nb, Option.isNone, Bool.false_and, Bool.false_eq_true, if_false]
    rcases M with ⟨M1, M2⟩ | ⟨M2, M1, M3⟩
    · have n1 : w d (sb (nearer g B) B) ≤ 0 := near_cases (P := fun X => w d (sb X B) ≤ 0) (Int.le_of_lt M1) M2
      have n2 := left _ (near_cases (P := fun X => 0 < w (sb m.2 m.1) (sb X B)) hk1 hk2) n1
      have r1 := left _ hk1 (Int.le_of_lt M1)
      have r2 := left _ hk2 M2
      by_cases h0 : cross g.1 g.2 B = 0
      · rw [if_pos h0]
        simp only [misses]
        rw [if_neg (by omega)]
        by_cases h1 : cross B R (nearer g B) < 0
        · rw [if_pos h1]; exact hR
        · rw [if_neg h1]
          exact n1
      · rw [if_neg h0]
        simp only [misses]
        rw [if_neg (by omega)]
        by_cases h1 : cross B R g.1 < 0
        · rw [if_pos h1]; exact hR
        · rw [if_neg h1]
          have I' := inv_step I K h0 (by omega) (by omega)
          rw [if_pos r1] at I'
          simp only [narrow]
          rw [if_pos r1]
          have key : ∀ (R' : Pt) (j' : Nat), Inv B g g.1 R' → w d (sb R' B) ≤ 0 → w d (sb (nxt e (nb B e (some ((g.1, k), (R', j'))) (k + 1) gs)) B) ≤ 0 := fun R' j' I' hR' => by
            have := hp_some B e (ng d) gs g g.1 R' k j' (k + 1) I' C.2 (by rw [w_ng]; omega) (by rw [w_ng]; omega)
            rw [w_ng] at this
            omega
          by_cases h3 : 0 ≤ cross B R g.2
          · simp only [h3, if_true] at I' ⊢
            exact key _ _ I' M2
          · simp only [h3, if_false] at I' ⊢
            exact key _ _ I' hR
    · have d2 := anti d (sb g.2 B)
      have hs := trans_lt1 (p := sb m.2 m.1) (x := sb g.2 B) (y := d) (z := sb g.1 B) (Int.le_of_lt hk2) hd hk1 (by omega) M1
      rw [← cr_w] at hs
      have hl := left _ hk2 (Int.le_of_lt M2)
      have hr : 0 ≤ cross B R g.1 := trans (p := sb m.2 m.1) (x := sb R B) (y := d) (z := sb g.1 B) (Int.le_of_lt I.c7) hd (Int.le_of_lt hk1) (by rw [anti]; omega) M1
      have e1 := cr_cyc B g.1 g.2
      have e2 := cr_anti B g.1 g.2
      have h0 : cross g.1 g.2 B ≠ 0 := by omega
      have I' := inv_step I K h0 (by omega) (by omega)
      rw [if_neg h0]
      simp only [misses]
      rw [if_neg (by omega), if_neg (by omega)]
      simp only [narrow]
      have ih := ph_right B e d gs g
      have hd' : 0 < w (sb g.2 g.1) d := by
        have : w (sb g.2 g.1) d = w d (sb g.1 B) - w d (sb g.2 B) := by simp only [w, sb]; grind
        omega
      by_cases h3 : cross B L g.1 ≤ 0 <;> by_cases h4 : 0 ≤ cross B R g.2
      all_goals
        simp only [h3, h4, if_true, if_false] at I' ⊢
        exact ih _ _ _ _ (k + 1) I' C.2 (by first | exact M1 | exact hL) (by first | exact Int.le_of_lt M2 | exact hR) hd' M3
theorem ph_right0 (B e d : Pt) (gs : List Gate) (k : Nat) (hb : Before B gs) (C : CH e gs) (ho : ∀ g r, gs = g :: r → off g B)
    (M : MR e B d gs) : w d (sb (nxt e (nb B e none k gs)) B) ≤ 0 := by
  cases gs with
  | nil => exact Int.le_of_lt M
  | cons g gs =>
    have hb' : cross g.1 g.2 B ≤ 0 := hb
    rcases M with ⟨M1, M2⟩ | ⟨M2, M1, M3⟩
    · have := hp_none B e (ng d) (g :: gs) k hb C ho (by intro q; cases q) (fun g' r q => by cases q; exact ⟨by rw [w_ng]; omega, by rw [w_ng]; omega⟩)
      rw [w_ng] at this
      omega
    · have o := onGate_off.mpr (ho g gs rfl)
      have h0 : cross g.1 g.2 B ≠ 0 := fun q => by
        rcases ho g gs rfl with z | z
        · exact z q
        · have hw : w (sb g.1 B) (sb g.2 B) = 0 := by rw [← cr_w, ← cr_cyc]; exact q
          have key : dt (sb g.1 B) (sb g.2 B) * w d (sb g.2 B) = ((sb g.2 B).1 * (sb g.2 B).1 + (sb g.2 B).2 * (sb g.2 B).2) * w d (sb g.1 B)
              + w (sb g.1 B) (sb g.2 B) * dt d (sb g.2 B) := by simp only [dt, w]; grind
          rw [hw, Int.zero_mul] at key
          have k1 := Int.mul_pos z (by omega : 0 < - w d (sb g.2 B))
          have k2 := Int.mul_nonneg (Int.add_nonneg (sq0 (sb g.2 B).1) (sq0 (sb g.2 B).2)) M1
          rw [Int.mul_neg] at k1
          omega
      simp only [nb, Option.isNone, Bool.true_and, o, Bool.false_eq_true, if_false, misses, narrow]
      rw [if_neg h0]
      refine ph_right B e d gs g g.1 g.2 k k (k + 1) (inv_first (by omega)) C M1 (Int.le_of_lt M2) ?_ M3
      have : w (sb g.2 g.1) d = w d (sb g.1 B) - w d (sb g.2 B) := by simp only [w, sb]; grind
      omega
theorem ml_of {e A B : Pt} : ∀ {gs : List Gate}, MissL e A B gs → ML e B (sb B A) gs
  | [], h => by
    show 0 < w (sb B A) (sb e B)
    have : w (sb B A) (sb e B) = cross A B e := by simp only [w, sb, cross]; grind
    rw [this]; exact h
  | g :: gs, h => by
    have e1 : w (sb B A) (sb g.1 B) = cross A B g.1 := by simp only [w, sb, cross]; grind
    have e2 : w (sb B A) (sb g.2 B) = cross A B g.2 := by simp only [w, sb, cross]; grind
    unfold ML
    rw [e1, e2]
    rcases h with h | ⟨h1, h2, h3⟩
    · exact .inl h
    · exact .inr ⟨h1, h2, ml_of h3⟩
theorem mr_of {e A B : Pt} : ∀ {gs : List Gate}, MissR e A B gs → MR e B (sb B A) gs
  | [], h => by
    show w (sb B A) (sb e B) < 0
    have : w (sb B A) (sb e B) = cross A B e := by simp only [w, sb, cross]; grind
    rw [this]; exact h
  | g :: gs, h => by
    have e1 : w (sb B A) (sb g.1 B) = cross A B g.1 := by simp only [w, sb, cross]; grind
    have e2 : w (sb B A) (sb g.2 B) = cross A B g.2 := by simp only [w, sb, cross]; grind
    unfold MR
    rw [e1, e2]
    rcases h with h | ⟨h1, h2, h3⟩
    · exact .inl h
    · exact .inr ⟨h1, h2, mr_of h3⟩
end FP
namespace FP
def unit (t : Pt) : Prop := t = (1, 0) ∨ t = (-1, 0) ∨ t = (0, 1) ∨ t = (0, -1)
def nrm (d : Pt) : Int := d.1 * d.1 + d.2 * d.2
def steep (x V x' V' : Int) : Prop := x' * (x'.natAbs : Int) * V ≤ x * (x.natAbs : Int) * V'
/-- an axis-aligned gate of length c in the direction t -/
def GDir (g : Gate) (t : Pt) (c : Int) : Prop := unit t ∧ 1 ≤ c ∧ g.2.1 = g.1.1 + c * t.1 ∧ g.2.2 = g.1.2 + c * t.2
def GOk (g : Gate) : Prop := ∃ t c, GDir g t c
/-- q, in halves, lies on the gate -/
def OnG (g : Gate) (q : Pt) : Prop :=
  ((2 * g.1.1 ≤ q.1 ∧ q.1 ≤ 2 * g.2.1) ∨ (2 * g.2.1 ≤ q.1 ∧ q.1 ≤ 2 * g.1.1)) ∧ ((2 * g.1.2 ≤ q.2 ∧ q.2 ≤ 2 * g.2.2) ∨ (2 * g.2.2 ≤ q.2 ∧ q.2 ≤ 2 * g.1.2))
def Ray (B t : Pt) (g : Gate) : Prop := ∀ q, OnG g q → ∃ s : Int, 0 ≤ s ∧ q.1 = 2 * B.1 + s * t.1 ∧ q.2 = 2 * B.2 + s * t.2
theorem unit_ng {t : Pt} (h : unit t) : unit (ng t) := by
  rcases h with h | h | h | h <;> subst h
  · exact .inr (.inl rfl)
  · exact .inl rfl
  · exact .inr (.inr (.inr rfl))
  · exact .inr (.inr (.inl rfl))
theorem ray_left {g : Gate} {t : Pt} {c : Int} (h : GDir g t c) : Ray g.1 t g := by
  obtain ⟨hu, hc, h1, h2⟩ := h
  intro q hq
  obtain ⟨o1, o2⟩ := hq
  rcases hu with rfl | rfl | rfl | rfl
  · exact ⟨q.1 - 2 * g.1.1, by simp only [] at h1 h2 ⊢; omega, by simp only [] at h1 h2 ⊢; omega, by simp only [] at h1 h2 ⊢; omega⟩
  · exact ⟨2 * g.1.1 - q.1, by simp only [] at h1 h2 ⊢; omega, by simp only [] at h1 h2 ⊢; omega, by simp only [] at h1 h2 ⊢; omega⟩
  · exact ⟨q.2 - 2 * g.1.2, by simp only [] at h1 h2 ⊢; omega, by simp only [] at h1 h2 ⊢; omega, by simp only [] at h1 h2 ⊢; omega⟩
  · exact ⟨2 * g.1.2 - q.2, by simp only [] at h1 h2 ⊢; omega, by simp only [] at h1 h2 ⊢; omega, by simp only [] at h1 h2 ⊢; omega⟩
theorem ray_right {g : Gate} {t : Pt} {c : Int} (h : GDir g t c) : Ray g.2 (ng t) g := by
  obtain ⟨hu, hc, h1, h2⟩ := h
  intro q hq
  obtain ⟨o1, o2⟩ := hq
  rcases hu with rfl | rfl | rfl | rfl <;> simp only [ng] at h1 h2 ⊢
  · exact ⟨2 * g.2.1 - q.1, by omega, by omega, by omega⟩
  · exact ⟨q.1 - 2 * g.2.1, by omega, by omega, by omega⟩
  · exact ⟨2 * g.2.2 - q.2, by omega, by omega, by omega⟩
  · exact ⟨q.2 - 2 * g.2.2, by omega, by omega, by omega⟩
theorem gdir_ne {g : Gate} {t : Pt} {c : Int} (h : GDir g t c) : g.1 ≠ g.2 := by
  obtain ⟨hu, hc, h1, h2⟩ := h
  intro q
  rw [q] at h1 h2
  rcases hu with rfl | rfl | rfl | rfl <;> simp only [] at h1 h2 <;> omega
theorem gdir_cross {g : Gate} {t : Pt} {c : Int} (h : GDir g t c) (X : Pt) : cross g.1 g.2 X = c * w t (sb X g.1) ∧ cross g.1 g.2 X = c * w t (sb X g.2) := by
  obtain ⟨hu, hc, h1, h2⟩ := h
  have e1 : g.2 = (g.1.1 + c * t.1, g.1.2 + c * t.2) := Prod.ext h1 h2
  rw [e1]
  constructor <;> (simp only [cross, w, sb]; grind)
theorem nat_sq (x : Int) : (x.natAbs : Int) * (x.natAbs : Int) = x * x := by
  rcases Int.le_total 0 x with h | h
  · rw [Int.natAbs_of_nonneg h]
  · rw [Int.ofNat_natAbs_of_nonpos h, Int.neg_mul_neg]
theorem steep_xy {x y x' y' : Int} (hy : 0 ≤ y) (hy' : 0 ≤ y') (h : y * x' ≤ x * y') (h0 : 0 < y ∨ 0 < x) : steep x (x * x + y * y) x' (x' * x' + y' * y') := by
  unfold steep
  rcases Int.le_total 0 x with hx | hx <;> rcases Int.le_total 0 x' with hx' | hx'
  · rw [Int.natAbs_of_nonneg hx, Int.natAbs_of_nonneg hx']
    have h1 : 0 ≤ y * x' := Int.mul_nonneg hy hx'
    have h2 : (y * x') * (y * x') ≤ (x * y') * (x * y') := Int.mul_le_mul h h h1 (Int.le_trans h1 h)
    have e1 : x' * x' * (x * x + y * y) = (y * x') * (y * x') + (x * x) * (x' * x') := by grind
    have e2 : x * x * (x' * x' + y' * y') = (x * y') * (x * y') + (x * x) * (x' * x') := by grind
    omega
  · rw [Int.natAbs_of_nonneg hx, Int.ofNat_natAbs_of_nonpos hx']
    have h1 : 0 ≤ x * x * (x' * x' + y' * y') := Int.mul_nonneg (sq0 x) (Int.add_nonneg (sq0 x') (sq0 y'))
    have h2 : 0 ≤ x' * x' * (x * x + y * y) := Int.mul_nonneg (sq0 x') (Int.add_nonneg (sq0 x) (sq0 y))
    rw [Int.mul_neg, Int.neg_mul]
    omega
  · rw [Int.natAbs_of_nonneg hx', Int.ofNat_natAbs_of_nonpos hx]
    -- x <= 0 <= x'
    by_cases hx0 : x = 0
    · subst hx0
      have hy1 : 0 < y := by omega
      have : x' = 0 := by
        apply Decidable.byContradiction
        intro hh
        have := Int.mul_pos hy1 (by omega : 0 < x')
        omega
      subst this
      simp
    · have hy1 : 0 < y := by omega
      have n1 : 0 ≤ y * x' := Int.mul_nonneg hy hx'
      have n2 : 0 ≤ (-x) * y' := Int.mul_nonneg (by omega) hy'
      rw [Int.neg_mul] at n2
      have x0 : x' = 0 := by
        apply Decidable.byContradiction
        intro hh
        have := Int.mul_pos hy1 (by omega : 0 < x')
        omega
      have y0 : y' = 0 := by
        apply Decidable.byContradiction
        intro hh
        have := Int.mul_pos (by omega : 0 < -x) (by omega : 0 < y')
        rw [Int.neg_mul] at this
        omega
      subst x0; subst y0
      simp
  · rw [Int.ofNat_natAbs_of_nonpos hx, Int.ofNat_natAbs_of_nonpos hx']
    have h1 : 0 ≤ (-x) * y' := Int.mul_nonneg (by omega) hy'
    have h3 : (-x) * y' ≤ (-x') * y := by rw [Int.neg_mul, Int.neg_mul, Int.mul_comm x' y]; omega
    have h2 : ((-x) * y') * ((-x) * y') ≤ ((-x') * y) * ((-x') * y) := Int.mul_le_mul h3 h3 h1 (Int.le_trans h1 h3)
    have e1 : x' * -x' * (x * x + y * y) = - (((-x') * y) * ((-x') * y)) - (x * x) * (x' * x') := by grind
    have e2 : x * -x * (x' * x' + y' * y') = - (((-x) * y') * ((-x) * y')) - (x * x) * (x' * x') := by grind
    omega
theorem unit_nrm {t : Pt} (h : unit t) (d : Pt) : nrm d = dt d t * dt d t + w t d * w t d := by
  rcases h with rfl | rfl | rfl | rfl <;> (simp only [nrm, dt, w]; grind)
theorem unit_w {t : Pt} (h : unit t) (d d' : Pt) : w d d' = dt d t * w t d' - w t d * dt d' t := by
  rcases h with rfl | rfl | rfl | rfl <;> (simp only [nrm, dt, w]; grind)
theorem dt_ng (d t : Pt) : dt d (ng t) = - dt d t := by simp only [dt, ng]; grind
/-- the bend's property, from angles -/
theorem steep_left {t d d' : Pt} (hu : unit t) (hy : 0 ≤ w t d) (hy' : 0 ≤ w t d') (h : 0 ≤ w d d' ∨ w t d = 0) (h0 : 0 < w t d ∨ 0 < dt d t) :
    steep (dt d t) (nrm d) (dt d' t) (nrm d') := by
  rw [unit_nrm hu d, unit_nrm hu d']
  refine steep_xy hy hy' ?_ h0
  rcases h with h | h
  · rw [unit_w hu] at h
    omega
  · rw [h, Int.zero_mul]
    exact Int.mul_nonneg (by omega) hy'
theorem steep_right {t d d' : Pt} (hu : unit t) (hy : 0 ≤ w t d) (hy' : 0 ≤ w t d') (h : w d d' ≤ 0 ∨ w t d = 0) (h0 : 0 < w t d ∨ 0 < dt d (ng t)) :
    steep (dt d (ng t)) (nrm d) (dt d' (ng t)) (nrm d') := by
  have e1 : nrm d = dt d (ng t) * dt d (ng t) + w t d * w t d := by rw [unit_nrm hu, dt_ng, Int.neg_mul_neg]
  have e2 : nrm d' = dt d' (ng t) * dt d' (ng t) + w t d' * w t d' := by rw [unit_nrm hu, dt_ng, Int.neg_mul_neg]
  rw [e1, e2]
  refine steep_xy hy hy' ?_ h0
  rcases h with h | h
  · rw [unit_w hu] at h
    rw [dt_ng, dt_ng, Int.mul_neg, Int.neg_mul]
    omega
  · rw [h, Int.zero_mul]
    exact Int.mul_nonneg (by omega) hy'
theorem steep_back {t d : Pt} (hu : unit t) : steep (dt d t) (nrm d) (dt (ng t) t) (nrm (ng t)) := by
  have e1 : dt (ng t) t = -1 := by rcases hu with rfl | rfl | rfl | rfl <;> rfl
  have e2 : nrm (ng t) = 1 := by rcases hu with rfl | rfl | rfl | rfl <;> rfl
  rw [e1, e2, unit_nrm hu]
  unfold steep
  have s2 := sq0 (w t d)
  have s1 := sq0 (dt d t)
  have : -(dt d t * dt d t) ≤ dt d t * ((dt d t).natAbs : Int) := by
    rcases Int.le_total 0 (dt d t) with h | h
    · rw [Int.natAbs_of_nonneg h]; omega
    · rw [Int.ofNat_natAbs_of_nonpos h, Int.mul_neg]; exact Int.le_refl _
  have e3 : (-1 : Int) * (((-1 : Int).natAbs : Nat) : Int) = -1 := rfl
  rw [e3]
  omega

/-! ### the certificate -/
inductive Cert (e : Pt) : Pt → Pt → List Gate → List Pt → Prop
  | stop {A d : Pt} {gs : List Gate} : A = e → 0 < nrm d → Cert e A d gs []
  | last {A : Pt} {gs : List Gate} : A ≠ e → Cert e A (sb e A) gs [e]
  | bend {A B d' t : Pt} {gs1 gs2 : List Gate} {g : Gate} {path : List Pt} : A ≠ B → unit t → Ray B t g → Cert e B d' gs2 path →
      0 < nrm d' → steep (dt (sb B A) t) (nrm (sb B A)) (dt d' t) (nrm d') → Cert e A (sb B A) (gs1 ++ g :: gs2) (B :: path)

def bds (gates : List Gate) (e : Pt) : Nat → Pt → Nat → List Bd
  | 0, _, _ => []
  | f + 1, A, first => match nb A e none first (gates.drop first) with
    | none => []
    | some b => b :: bds gates e f b.1 (b.2 + 1)
def pathOf (e : Pt) : Pt → List Bd → List Pt
  | A, [] => if A = e then [] else [e]
  | _, b :: bs => b.1 :: pathOf e b.1 bs

theorem nrm_pos {a b : Pt} (h : a ≠ b) : 0 < nrm (sb b a) := by
  have s1 := sq0 (b.1 - a.1)
  have s2 := sq0 (b.2 - a.2)
  have hx : nrm (sb b a) = (b.1 - a.1) * (b.1 - a.1) + (b.2 - a.2) * (b.2 - a.2) := rfl
  apply Decidable.byContradiction
  intro hh
  have u1 : b.1 - a.1 = 0 := sqz (by omega)
  have u2 : b.2 - a.2 = 0 := sqz (by omega)
  exact h (Prod.ext (by omega) (by omega))
theorem chain_tail {e : Pt} : ∀ (gs1 : List Gate) {g : Gate} {gs2 : List Gate}, CH e (gs1 ++ g :: gs2) → Chain e g gs2
  | [], _, _, h => h
  | [x], _, _, h => h.2
  | x :: y :: r, _, _, h => chain_tail (y :: r) h.2
theorem w_sb_ng (t B A : Pt) : w t (sb A B) = - w t (sb B A) := by simp only [w, sb]; grind
theorem pos_cancel {c x : Int} (hc : 1 ≤ c) (h : 0 < c * x) : 0 < x := by
  rw [Int.mul_comm] at h; exact pos_of_mul h (by omega)
theorem nonneg_cancel {c x : Int} (hc : 1 ≤ c) (h : 0 ≤ c * x) : 0 ≤ x := by
  rw [Int.mul_comm] at h; exact nonneg_of_mul h (by omega)

/-- what the next point C behind a bend B (at the gate g, from A) satisfies -/
theorem bend_ok {e A B : Pt} {g : Gate} {gs : List Gate} {t : Pt} {c : Int} (k : Nat) (hG : GDir g t c) (hC : Chain e g gs) (hb : BendAt e A B g gs) :
    A ≠ B ∧ Before B gs ∧ CH e gs ∧ ∃ t', unit t' ∧ Ray B t' g ∧ steep (dt (sb B A) t') (nrm (sb B A)) (dt (sb (nxt e (nb B e none k gs)) B) t') (nrm (sb (nxt e (nb B e none k gs)) B)) := by
  have hc := hG.2.1
  have hu := hG.1
  have cr := gdir_cross hG
  have hCH : CH e gs := by
    cases gs with
    | nil => trivial
    | cons h r => exact hC.2
  have hB : B = g.1 ∨ B = g.2 := by
    rcases hb with h | h | h | h
    · exact .inl h.1
    · exact .inr h.1
    · exact .inl h.1
    · exact .inr h.1
  have crB : ∀ X, cross g.1 g.2 X = c * w t (sb X B) := fun X => by
    rcases hB with rfl | rfl
    · exact (cr X).1
    · exact (cr X).2
  have hBef : Before B gs := by
    cases gs with
    | nil => trivial
    | cons h r =>
      rcases hB with rfl | rfl
      · exact hC.1.gl
      · exact hC.1.gr
  have hoff : ∀ h r, gs = h :: r → off h B := by
    intro h r q
    subst q
    rcases hB with rfl | rfl
    · exact hC.1.o3
    · exact hC.1.o4
  -- beyond the gate
  have y' : 0 ≤ w t (sb (nxt e (nb B e none k gs)) B) := by
    refine hp_none B e t gs k hBef hCH hoff ?_ ?_
    · intro q
      subst q
      have : 0 ≤ cross g.1 g.2 e := hC
      rw [crB] at this
      exact nonneg_cancel hc this
    · intro h r q
      subst q
      have h1 := hC.1.hl
      have h2 := hC.1.hr
      rw [crB] at h1 h2
      exact ⟨nonneg_cancel hc h1, nonneg_cancel hc h2⟩
  rcases hb with ⟨rfl, h1, h2⟩ | ⟨rfl, h1, h2⟩ | ⟨rfl, h1, h2⟩ | ⟨rfl, h1, h2⟩
  · have y : 0 < w t (sb g.1 A) := by
      rw [crB, w_sb_ng, Int.mul_neg] at h1
      exact pos_cancel hc (by omega)
    refine ⟨fun q => ?_, hBef, hCH, t, hu, ray_left hG, steep_left hu (Int.le_of_lt y) y' (.inl (ph_left0 _ e _ gs k hBef hCH hoff (ml_of h2))) (.inl y)⟩
    rw [q] at y
    have : w t (sb g.1 g.1) = 0 := by simp only [w, sb]; grind
    omega
  · have y : 0 < w t (sb g.2 A) := by
      rw [crB, w_sb_ng, Int.mul_neg] at h1
      exact pos_cancel hc (by omega)
    refine ⟨fun q => ?_, hBef, hCH, ng t, unit_ng hu, ray_right hG, steep_right hu (Int.le_of_lt y) y' (.inl (ph_right0 _ e _ gs k hBef hCH hoff (mr_of h2))) (.inl y)⟩
    rw [q] at y
    have : w t (sb g.2 g.2) = 0 := by simp only [w, sb]; grind
    omega
  · have y : w t (sb g.1 A) = 0 := by
      rw [crB, w_sb_ng, Int.mul_neg] at h1
      have : c * w t (sb g.1 A) = 0 := by omega
      rcases Int.mul_eq_zero.mp this with q | q
      · omega
      · exact q
    have hx : 0 < dt (sb g.1 A) t := by
      have e1 : dt (sb g.1 A) (sb g.2 g.1) = c * dt (sb g.1 A) t := by
        have : sb g.2 g.1 = (c * t.1, c * t.2) := Prod.ext (by show g.2.1 - g.1.1 = c * t.1; have := hG.2.2.1; omega) (by show g.2.2 - g.1.2 = c * t.2; have := hG.2.2.2; omega)
        rw [this]; simp only [dt]; grind
      rw [e1] at h2
      exact pos_cancel hc h2
    refine ⟨fun q => ?_, hBef, hCH, t, hu, ray_left hG, steep_left hu (by omega) y' (.inr y) (.inr hx)⟩
    rw [q] at hx
    have : dt (sb g.1 g.1) t = 0 := by simp only [dt, sb]; grind
    omega
  · have y : w t (sb g.2 A) = 0 := by
      rw [crB, w_sb_ng, Int.mul_neg] at h1
      have : c * w t (sb g.2 A) = 0 := by omega
      rcases Int.mul_eq_zero.mp this with q | q
      · omega
      · exact q
    have hx : 0 < dt (sb g.2 A) (ng t) := by
      have e1 : dt (sb g.2 A) (sb g.1 g.2) = c * dt (sb g.2 A) (ng t) := by
        have : sb g.1 g.2 = (c * (ng t).1, c * (ng t).2) := Prod.ext (by show g.1.1 - g.2.1 = c * -t.1; have := hG.2.2.1; rw [Int.mul_neg]; omega) (by show g.1.2 - g.2.2 = c * -t.2; have := hG.2.2.2; rw [Int.mul_neg]; omega)
        rw [this]; simp only [dt]; grind
      rw [e1] at h2
      exact pos_cancel hc h2
    refine ⟨fun q => ?_, hBef, hCH, ng t, unit_ng hu, ray_right hG, steep_right hu (by omega) y' (.inr y) (.inr hx)⟩
    rw [q] at hx
    have : dt (sb g.2 g.2) (ng t) = 0 := by simp only [dt, sb]; grind
    omega

theorem cert_bds (gates : List Gate) (e : Pt) : ∀ (f : Nat) (A : Pt) (first : Nat), Before A (gates.drop first) → CH e (gates.drop first) →
    (∀ g ∈ gates, GOk g) → (gates.drop first).length < f →
    (A ≠ nxt e (nb A e none first (gates.drop first)) → Cert e A (sb (nxt e (nb A e none first (gates.drop first))) A) (gates.drop first) (pathOf e A (bds gates e f A first))) ∧
    (A = nxt e (nb A e none first (gates.drop first)) → A = e ∧ pathOf e A (bds gates e f A first) = [])
  | 0, _, _, _, _, _, hf => absurd hf (Nat.not_lt_zero _)
  | f + 1, A, first, hB, hC, hG, hf => by
    have hN : ∀ g ∈ gates.drop first, g.1 ≠ g.2 := fun g hg => by
      obtain ⟨t, c, h⟩ := hG g (List.mem_of_mem_drop hg)
      exact gdir_ne h
    rcases nb_none A e (gates.drop first) first hB hC hN with q | ⟨gs1, g, gs2, B, q1, q2, q3⟩
    · unfold bds
      rw [q]
      simp only [nxt, pathOf]
      constructor
      · intro hne
        rw [if_neg hne]
        exact .last hne
      · intro he
        rw [if_pos he]
        exact ⟨he, rfl⟩
    · have hgm : g ∈ gates := List.mem_of_mem_drop (i := first) (by rw [q1]; exact List.mem_append_right _ (List.mem_cons_self ..))
      obtain ⟨t, c, hGd⟩ := hG g hgm
      have hCg : Chain e g gs2 := chain_tail gs1 (q1 ▸ hC)
      have hd : gates.drop (first + gs1.length + 1) = gs2 := by
        have : gates.drop (first + gs1.length + 1) = (gates.drop first).drop (gs1.length + 1) := by rw [List.drop_drop]; rfl
        rw [this, q1, List.drop_append]
        simp
      obtain ⟨hAB, hBef, hCH, t', hu, hR, hst⟩ := bend_ok (first + gs1.length + 1) hGd hCg q3
      have ih := cert_bds gates e f B (first + gs1.length + 1) (by rw [hd]; exact hBef) (by rw [hd]; exact hCH) hG (by
        rw [hd]
        have : (gates.drop first).length = gs1.length + (gs2.length + 1) := by rw [q1, List.length_append, List.length_cons]
        omega)
      rw [hd] at ih
      unfold bds
      rw [q2]
      simp only [nxt, pathOf]
      refine ⟨fun _ => ?_, fun z => absurd z hAB⟩
      rw [q1]
      by_cases hBC : B = nxt e (nb B e none (first + gs1.length + 1) gs2)
      · obtain ⟨z1, z2⟩ := ih.2 hBC
        rw [z2]
        refine .bend hAB hu hR (.stop (d := ng t') z1 ?_) ?_ (steep_back hu)
        all_goals
          have : nrm (ng t') = 1 := by rcases hu with rfl | rfl | rfl | rfl <;> rfl
          omega
      · exact .bend hAB hu hR (ih.1 hBC) (nrm_pos hBC) hst
end FP
namespace FP
/-! ### integer roots -/
def rtN : Nat → Nat
  | 0 => 0
  | n + 1 => if (rtN n + 1) * (rtN n + 1) ≤ n + 1 then rtN n + 1 else rtN n
theorem rtN_spec : ∀ n, rtN n * rtN n ≤ n ∧ n < (rtN n + 1) * (rtN n + 1)
  | 0 => ⟨Nat.le_refl _, by decide⟩
  | n + 1 => by
    obtain ⟨h1, h2⟩ := rtN_spec n
    unfold rtN
    split
    · rename_i h
      refine ⟨h, ?_⟩
      have : (rtN n + 1 + 1) * (rtN n + 1 + 1) = (rtN n + 1) * (rtN n + 1) + 2 * rtN n + 3 := by grind
      omega
    · omega
def rt (n : Int) : Int := (rtN n.toNat : Int)
theorem rt_nonneg (n : Int) : 0 ≤ rt n := Int.natCast_nonneg _
theorem rt_spec {n : Int} (h : 0 ≤ n) : rt n * rt n ≤ n ∧ n < (rt n + 1) * (rt n + 1) := by
  obtain ⟨h1, h2⟩ := rtN_spec n.toNat
  unfold rt
  constructor
  · have : ((rtN n.toNat * rtN n.toNat : Nat) : Int) ≤ (n.toNat : Int) := Int.ofNat_le.mpr h1
    rw [Int.natCast_mul] at this
    omega
  · have : ((n.toNat : Nat) : Int) < (((rtN n.toNat + 1) * (rtN n.toNat + 1) : Nat) : Int) := Int.ofNat_lt.mpr h2
    rw [Int.natCast_mul, Int.natCast_add] at this
    have e : ((1 : Nat) : Int) = 1 := rfl
    rw [e] at this
    omega
/-- the order of squares -/
theorem lt_of_sq {a b : Int} (hb : 0 ≤ b) (h : a * a < b * b) : a < b := by
  apply Decidable.byContradiction
  intro hh
  have := Int.mul_le_mul (by omega : b ≤ a) (by omega : b ≤ a) hb (by omega)
  omega
theorem le_of_sq {a b : Int} (hb : 0 ≤ b) (h : a * a ≤ b * b) : a ≤ b := by
  apply Decidable.byContradiction
  intro hh
  have := Int.mul_lt_mul (by omega : b < a) (by omega : b ≤ a) 
  by_cases hb0 : b = 0
  · subst hb0
    have := Int.mul_pos (by omega : 0 < a) (by omega : 0 < a)
    omega
  · have := Int.mul_lt_mul (by omega : b < a) (by omega : b ≤ a) (by omega) (by omega)
    omega
theorem rt_uniq {n r : Int} (h0 : 0 ≤ r) (h1 : r * r ≤ n) (h2 : n < (r + 1) * (r + 1)) : rt n = r := by
  have hn : 0 ≤ n := Int.le_trans (sq0 r) h1
  obtain ⟨a, b⟩ := rt_spec hn
  have := rt_nonneg n
  have c1 := lt_of_sq (a := rt n) (b := r + 1) (by omega) (by omega)
  have c2 := lt_of_sq (a := r) (b := rt n + 1) (by omega) (by omega)
  omega
/-- the floor of M times the length -/
def len (M : Int) (v : Pt) : Int := rt (M * v.1 * (M * v.1) + M * v.2 * (M * v.2))
def al (M : Int) (v : Pt) : Int := len M v + 1
theorem nrm_nonneg (v : Pt) : 0 ≤ nrm v := Int.add_nonneg (sq0 _) (sq0 _)
theorem len_arg (M : Int) (v : Pt) : M * v.1 * (M * v.1) + M * v.2 * (M * v.2) = M * M * nrm v := by simp only [nrm]; grind
theorem len_nonneg (M : Int) (v : Pt) : 0 ≤ len M v := rt_nonneg _
theorem len_lo (M : Int) (v : Pt) : len M v * len M v ≤ M * M * nrm v := by
  have := rt_spec (n := M * M * nrm v) (Int.mul_nonneg (sq0 M) (nrm_nonneg v))
  unfold len
  rw [len_arg]; exact this.1
theorem len_hi (M : Int) (v : Pt) : M * M * nrm v < al M v * al M v := by
  have := rt_spec (n := M * M * nrm v) (Int.mul_nonneg (sq0 M) (nrm_nonneg v))
  unfold al len
  rw [len_arg]; exact this.2
theorem al_pos (M : Int) (v : Pt) : 0 < al M v := by have := len_nonneg M v; unfold al; omega
/-- Cauchy's inequality -/
theorem cauchy (M : Int) (d v : Pt) : M * M * dt d v ≤ al M d * al M v := by
  apply Decidable.byContradiction
  intro hh
  have h1 := len_hi M d
  have h2 := len_hi M v
  have p1 := al_pos M d
  have p2 := al_pos M v
  have pp := Int.mul_pos p1 p2
  have n1 : 0 ≤ M * M * nrm d := Int.mul_nonneg (sq0 M) (nrm_nonneg d)
  have n2 : 0 ≤ M * M * nrm v := Int.mul_nonneg (sq0 M) (nrm_nonneg v)
  have lag : (M * M * nrm d) * (M * M * nrm v) = (M * M * dt d v) * (M * M * dt d v) + (M * M * w d v) * (M * M * w d v) := by simp only [nrm, dt, w]; grind
  have s := sq0 (M * M * w d v)
  have t1 : (M * M * nrm d) * (M * M * nrm v) ≤ (al M d * al M d) * (al M v * al M v) := Int.mul_le_mul (Int.le_of_lt h1) (Int.le_of_lt h2) n2 (Int.le_trans n1 (Int.le_of_lt h1))
  have t2 : (al M d * al M d) * (al M v * al M v) = (al M d * al M v) * (al M d * al M v) := by grind
  have t3 := le_of_sq (a := M * M * dt d v) (b := al M d * al M v) (Int.le_of_lt pp) (by omega)
  omega
theorem dt_add (d u v : Pt) : dt d u + dt d v = dt d (u.1 + v.1, u.2 + v.2) := by simp only [dt]; grind
theorem sb_add (a b c : Pt) : ((sb b a).1 + (sb c b).1, (sb b a).2 + (sb c b).2) = sb c a := by
  simp only [sb]; exact Prod.ext (by show b.1 - a.1 + (c.1 - b.1) = c.1 - a.1; omega) (by show b.2 - a.2 + (c.2 - b.2) = c.2 - a.2; omega)
/-- the triangle -/
theorem len_tri (M : Int) (a b c : Pt) : len M (sb c a) ≤ len M (sb b a) + len M (sb c b) + 1 := by
  have h1 := len_lo M (sb c a)
  have h2 := len_hi M (sb b a)
  have h3 := len_hi M (sb c b)
  have h4 := cauchy M (sb b a) (sb c b)
  have e : M * M * nrm (sb c a) = M * M * nrm (sb b a) + M * M * nrm (sb c b) + 2 * (M * M * dt (sb b a) (sb c b)) := by simp only [nrm, dt, sb]; grind
  have e2 : (al M (sb b a) + al M (sb c b)) * (al M (sb b a) + al M (sb c b)) = al M (sb b a) * al M (sb b a) + al M (sb c b) * al M (sb c b) + 2 * (al M (sb b a) * al M (sb c b)) := by grind
  have p1 := al_pos M (sb b a)
  have p2 := al_pos M (sb c b)
  have := lt_of_sq (a := len M (sb c a)) (b := al M (sb b a) + al M (sb c b)) (by omega) (by omega)
  unfold al at this
  omega
/-! ### paths -/
def dbl (a : Pt) : Pt := (2 * a.1, 2 * a.2)
/-- sums over the parts -/
def sumP (f : Pt → Int) : List Pt → Int
  | a :: b :: r => f (sb b a) + sumP f (b :: r)
  | _ => 0
theorem sumP_app (f : Pt → Int) : ∀ (l : List Pt) (q : Pt) (r : List Pt), sumP f (l ++ q :: r) = sumP f (l ++ [q]) + sumP f (q :: r)
  | [], q, r => by simp [sumP]
  | [a], q, r => by simp [sumP]
  | a :: b :: l, q, r => by
    have := sumP_app f (b :: l) q r
    simp only [List.cons_append, sumP] at this ⊢
    omega
theorem row_dt (M : Int) (d : Pt) : ∀ (l : List Pt) (q z : Pt), M * M * dt d (sb z q) ≤ al M d * sumP (al M) (q :: (l ++ [z]))
  | [], q, z => by
    have := cauchy M d (sb z q)
    simp only [List.nil_append, sumP, Int.add_zero]
    exact this
  | a :: l, q, z => by
    have h1 := cauchy M d (sb a q)
    have h2 := row_dt M d l a z
    have e : dt d (sb z q) = dt d (sb a q) + dt d (sb z a) := by rw [dt_add, sb_add]
    simp only [List.cons_append, sumP] at h2 ⊢
    rw [e, Int.mul_add, Int.mul_add]
    omega
/-- the slope of the direction d along t, at the scale M -/
def K (M : Int) (d t : Pt) : Int := M * M * dt d t / al M d
theorem K_lo (M : Int) (d t : Pt) : K M d t * al M d ≤ M * M * dt d t := Int.ediv_mul_le _ (by have := al_pos M d; omega)
theorem K_hi (M : Int) (d t : Pt) : M * M * dt d t < (K M d t + 1) * al M d := Int.lt_ediv_add_one_mul_self _ (al_pos M d)
theorem al_ge (M k : Int) (d : Pt) (hM : 1 ≤ M) (hk : 0 ≤ k) (h : k * k ≤ nrm d) : M * k ≤ al M d := by
  have h1 := len_hi M d
  have p := al_pos M d
  refine le_of_sq (Int.le_of_lt p) ?_
  have e : M * k * (M * k) = M * M * (k * k) := by grind
  have := Int.mul_le_mul_of_nonneg_left h (sq0 M)
  omega
theorem unit_dt_le {t : Pt} (hu : unit t) (d : Pt) : dt d t * dt d t ≤ nrm d := by
  rw [unit_nrm hu d]
  have := sq0 (w t d)
  omega
/-- the slope does not grow at a bend, up to a constant -/
theorem K_bend {M : Int} {d d' t : Pt} (hM : 1 ≤ M) (hu : unit t) (h0 : 0 < nrm d) (h0' : 0 < nrm d') (h : steep (dt d t) (nrm d) (dt d' t) (nrm d')) :
    K M d' t ≤ K M d t + 2 := by
  have p := al_pos M d
  have p' := al_pos M d'
  have pp := Int.mul_pos p p'
  have hb := len_hi M d
  have hb' := len_hi M d'
  have hl := len_lo M d
  have hl' := len_lo M d'
  have n := len_nonneg M d
  have n' := len_nonneg M d'
  have x1 := unit_dt_le hu d
  have x1' := unit_dt_le hu d'
  have a1 := al_ge M 1 d hM (by decide) (by omega)
  have a1' := al_ge M 1 d' hM (by decide) (by omega)
  rw [Int.mul_one] at a1 a1'
  -- the claim
  have claim : M * M * (dt d' t * al M d) ≤ M * M * (dt d t * al M d') + al M d * al M d' := by
    have core : ∃ y : Int, 0 ≤ y ∧ dt d' t * al M d ≤ dt d t * al M d' + y ∧ M * M * y ≤ al M d * al M d' := by
      unfold steep at h
      rcases Int.le_total 0 (dt d t) with hx | hx <;> rcases Int.le_total 0 (dt d' t) with hx' | hx'
      · rw [Int.natAbs_of_nonneg hx, Int.natAbs_of_nonneg hx'] at h
        refine ⟨dt d' t, hx', ?_, ?_⟩
        · have q : dt d' t * len M d ≤ dt d t * al M d' := by
            refine le_of_sq (Int.mul_nonneg hx (Int.le_of_lt p')) ?_
            have e1 : dt d' t * len M d * (dt d' t * len M d) = dt d' t * dt d' t * (len M d * len M d) := by grind
            have e2 : dt d t * al M d' * (dt d t * al M d') = dt d t * dt d t * (al M d' * al M d') := by grind
            have f1 := Int.mul_le_mul_of_nonneg_left hl (sq0 (dt d' t))
            have f2 := Int.mul_le_mul_of_nonneg_left (Int.le_of_lt hb') (sq0 (dt d t))
            have f3 := Int.mul_le_mul_of_nonneg_left h (sq0 M)
            have e3 : dt d' t * dt d' t * (M * M * nrm d) = M * M * (dt d' t * dt d' t * nrm d) := by grind
            have e4 : dt d t * dt d t * (M * M * nrm d') = M * M * (dt d t * dt d t * nrm d') := by grind
            omega
          have e : dt d' t * al M d = dt d' t * len M d + dt d' t := by unfold al; rw [Int.mul_add, Int.mul_one]
          omega
        · have a2 := al_ge M (dt d' t) d' hM hx' x1'
          have := Int.mul_le_mul a1 a2 (Int.mul_nonneg (by omega) hx') (Int.le_of_lt p)
          have e : M * M * dt d' t = M * (M * dt d' t) := by grind
          omega
      · refine ⟨0, Int.le_refl _, ?_, by rw [Int.mul_zero]; exact Int.le_of_lt pp⟩
        have f1 := Int.mul_nonneg hx (Int.le_of_lt p')
        have f2 := Int.mul_nonneg (by omega : 0 ≤ - dt d' t) (Int.le_of_lt p)
        rw [Int.neg_mul] at f2
        omega
      · -- the slope of d' is not positive then
        rw [Int.natAbs_of_nonneg hx', Int.ofNat_natAbs_of_nonpos hx] at h
        refine ⟨- dt d t, by omega, ?_, ?_⟩
        · -- x <= 0 <= x': then x' = 0 and x = 0
          have f1 : 0 ≤ dt d' t * dt d' t * nrm d := Int.mul_nonneg (sq0 _) (Int.le_of_lt h0)
          have f2 : 0 ≤ dt d t * dt d t * nrm d' := Int.mul_nonneg (sq0 _) (Int.le_of_lt h0')
          have e : dt d t * -dt d t * nrm d' = -(dt d t * dt d t * nrm d') := by grind
          have z1 : dt d' t * dt d' t * nrm d = 0 := by omega
          have z2 : dt d t * dt d t * nrm d' = 0 := by omega
          have y1 : dt d' t = 0 := by
            rcases Int.mul_eq_zero.mp z1 with z | z
            · exact sqz z
            · omega
          have y2 : dt d t = 0 := by
            rcases Int.mul_eq_zero.mp z2 with z | z
            · exact sqz z
            · omega
          rw [y1, y2]; simp
        · have x2 : - dt d t * - dt d t ≤ nrm d := by rw [Int.neg_mul_neg]; exact x1
          have a2 := al_ge M (- dt d t) d hM (by omega) x2
          have := Int.mul_le_mul a2 a1' (by omega) (Int.le_of_lt p)
          have e : M * M * - dt d t = M * - dt d t * M := by grind
          omega
      · rw [Int.ofNat_natAbs_of_nonpos hx, Int.ofNat_natAbs_of_nonpos hx'] at h
        refine ⟨- dt d t, by omega, ?_, ?_⟩
        · have q : - dt d t * len M d' ≤ - dt d' t * al M d := by
            refine le_of_sq (Int.mul_nonneg (by omega) (Int.le_of_lt p)) ?_
            have e1 : - dt d t * len M d' * (- dt d t * len M d') = dt d t * dt d t * (len M d' * len M d') := by grind
            have e2 : - dt d' t * al M d * (- dt d' t * al M d) = dt d' t * dt d' t * (al M d * al M d) := by grind
            have f1 := Int.mul_le_mul_of_nonneg_left hl' (sq0 (dt d t))
            have f2 := Int.mul_le_mul_of_nonneg_left (Int.le_of_lt hb) (sq0 (dt d' t))
            have h' : dt d t * dt d t * nrm d' ≤ dt d' t * dt d' t * nrm d := by
              have e5 : dt d' t * -dt d' t * nrm d = -(dt d' t * dt d' t * nrm d) := by grind
              have e6 : dt d t * -dt d t * nrm d' = -(dt d t * dt d t * nrm d') := by grind
              omega
            have f3 := Int.mul_le_mul_of_nonneg_left h' (sq0 M)
            have e3 : dt d' t * dt d' t * (M * M * nrm d) = M * M * (dt d' t * dt d' t * nrm d) := by grind
            have e4 : dt d t * dt d t * (M * M * nrm d') = M * M * (dt d t * dt d t * nrm d') := by grind
            omega
          have e : dt d t * al M d' = dt d t * len M d' + dt d t := by unfold al; rw [Int.mul_add, Int.mul_one]
          rw [Int.neg_mul, Int.neg_mul] at q
          omega
        · have x2 : - dt d t * - dt d t ≤ nrm d := by rw [Int.neg_mul_neg]; exact x1
          have a2 := al_ge M (- dt d t) d hM (by omega) x2
          have := Int.mul_le_mul a2 a1' (by omega) (Int.le_of_lt p)
          have e : M * M * - dt d t = M * - dt d t * M := by grind
          omega
    obtain ⟨y, y0, y1, y2⟩ := core
    have := Int.mul_le_mul_of_nonneg_left y1 (sq0 M)
    rw [Int.mul_add] at this
    omega
  have k1 := Int.mul_le_mul_of_nonneg_right (K_lo M d' t) (Int.le_of_lt p)
  have k2 := Int.mul_lt_mul_of_pos_right (K_hi M d t) p'
  have e1 : K M d' t * al M d' * al M d = K M d' t * (al M d * al M d') := by grind
  have e2 : (K M d t + 1) * al M d * al M d' = (K M d t + 1) * (al M d * al M d') := by grind
  have e3 : M * M * dt d' t * al M d = M * M * (dt d' t * al M d) := by grind
  have e4 : M * M * dt d t * al M d' = M * M * (dt d t * al M d') := by grind
  have e5 : (K M d t + 2) * (al M d * al M d') = (K M d t + 1) * (al M d * al M d') + al M d * al M d' := by grind
  have fin : K M d' t * (al M d * al M d') < (K M d t + 2) * (al M d * al M d') := by omega
  exact Int.le_of_lt (Int.lt_of_mul_lt_mul_right fin (Int.le_of_lt pp))
/-! ### the lower bound -/
def OnRow (e : Pt) : List Gate → List Pt → Prop
  | [], l => l = [dbl e]
  | _ :: _, [] => False
  | g :: gs, q :: l => OnG g q ∧ OnRow e gs l
theorem onRow_last {e : Pt} : ∀ {gs : List Gate} {l : List Pt}, OnRow e gs l → ∃ l', l = l' ++ [dbl e]
  | [], l, h => ⟨[], h⟩
  | _ :: _, [], h => h.elim
  | g :: gs, q :: l, h => by
    obtain ⟨l', e⟩ := onRow_last h.2
    exact ⟨q :: l', by rw [e]; rfl⟩
theorem onRow_app {e : Pt} : ∀ {gs1 : List Gate} {g : Gate} {gs2 : List Gate} {l : List Pt}, OnRow e (gs1 ++ g :: gs2) l → ∃ l1 q l2, l = l1 ++ q :: l2 ∧ OnG g q ∧ OnRow e gs2 l2
  | [], _, _, [], h => h.elim
  | [], _, _, q :: l, h => ⟨[], q, l, rfl, h.1, h.2⟩
  | _ :: _, _, _, [], h => h.elim
  | x :: gs1, g, gs2, a :: l, h => by
    obtain ⟨l1, q, l2, e1, e2, e3⟩ := onRow_app (gs1 := gs1) h.2
    exact ⟨a :: l1, q, l2, by rw [e1]; rfl, e2, e3⟩
theorem lb {e A d : Pt} {gs : List Gate} {path : List Pt} (hc : Cert e A d gs path) : ∀ (t q : Pt) (s : Int) (row : List Pt), 0 ≤ s → q.1 = 2 * A.1 + s * t.1 → q.2 = 2 * A.2 + s * t.2 →
    OnRow e gs row → ∃ C : Int, ∀ M : Int, 1 ≤ M → sumP (len M) (dbl A :: path.map dbl) ≤ sumP (al M) (q :: row) + s * K M d t + C := by
  induction hc with
  | @stop A d gs hA hd =>
    intro t q s row hs h1 h2 hr
    obtain ⟨l, rfl⟩ := onRow_last hr
    refine ⟨s, fun M hM => ?_⟩
    have k := row_dt M d l q (dbl e)
    have e1 : dt d (sb (dbl e) q) = -(s * dt d t) := by
      subst hA
      simp only [dt, sb, dbl, h1, h2]; grind
    rw [e1] at k
    have kh := K_hi M d t
    have p := al_pos M d
    have g1 := Int.mul_le_mul_of_nonneg_left (Int.le_of_lt kh) hs
    have e2 : M * M * -(s * dt d t) = -(s * (M * M * dt d t)) := by grind
    have e3 : s * ((K M d t + 1) * al M d) = (s * K M d t + s) * al M d := by grind
    have e4 : al M d * sumP (al M) (q :: (l ++ [dbl e])) = sumP (al M) (q :: (l ++ [dbl e])) * al M d := Int.mul_comm _ _
    have e5 : (sumP (al M) (q :: (l ++ [dbl e])) + s * K M d t + s) * al M d = sumP (al M) (q :: (l ++ [dbl e])) * al M d + (s * K M d t + s) * al M d := by grind
    have fin : 0 ≤ (sumP (al M) (q :: (l ++ [dbl e])) + s * K M d t + s) * al M d := by omega
    have := nonneg_of_mul fin p
    simp only [List.map_nil, sumP]
    omega
  | @last A gs hA =>
    intro t q s row hs h1 h2 hr
    obtain ⟨l, rfl⟩ := onRow_last hr
    refine ⟨s + 4, fun M hM => ?_⟩
    have k := row_dt M (sb e A) l q (dbl e)
    have e1 : dt (sb e A) (sb (dbl e) q) = 2 * nrm (sb e A) - (s * dt (sb e A) t) := by
      simp only [dt, sb, dbl, nrm, h1, h2]; grind
    rw [e1] at k
    have kh := K_hi M (sb e A) t
    have p := al_pos M (sb e A)
    have ll := len_lo M (sb e A)
    have g1 := Int.mul_le_mul_of_nonneg_left (Int.le_of_lt kh) hs
    have e2 : M * M * (2 * nrm (sb e A) - (s * dt (sb e A) t)) = 2 * (M * M * nrm (sb e A)) - (s * (M * M * dt (sb e A) t)) := by grind
    have e3 : s * ((K M (sb e A) t + 1) * al M (sb e A)) = (s * K M (sb e A) t + s) * al M (sb e A) := by grind
    have e6 : 2 * (len M (sb e A) * len M (sb e A)) = (2 * al M (sb e A) - 4) * al M (sb e A) + 2 := by unfold al; grind
    have e5 : (sumP (al M) (q :: (l ++ [dbl e])) + s * K M (sb e A) t + s + 4 - 2 * al M (sb e A)) * al M (sb e A) = al M (sb e A) * sumP (al M) (q :: (l ++ [dbl e])) + (s * K M (sb e A) t + s) * al M (sb e A) - (2 * al M (sb e A) - 4) * al M (sb e A) := by grind
    have fin : 0 ≤ (sumP (al M) (q :: (l ++ [dbl e])) + s * K M (sb e A) t + s + 4 - 2 * al M (sb e A)) * al M (sb e A) := by omega
    have := nonneg_of_mul fin p
    have b2 : len M (sb (dbl e) (dbl A)) ≤ 2 * al M (sb e A) := by
      have f1 := len_lo M (sb (dbl e) (dbl A))
      have f2 := len_hi M (sb e A)
      have e7 : M * M * nrm (sb (dbl e) (dbl A)) = 4 * (M * M * nrm (sb e A)) := by simp only [nrm, sb, dbl]; grind
      refine le_of_sq (by omega) ?_
      have e8 : 2 * al M (sb e A) * (2 * al M (sb e A)) = 4 * (al M (sb e A) * al M (sb e A)) := by grind
      omega
    simp only [List.map_cons, List.map_nil, sumP]
    omega
  | @bend A B d' t' gs1 gs2 g path hAB hu hR hc hd' hst ih =>
    intro t q s row hs h1 h2 hr
    obtain ⟨l1, q', l2, rfl, hq', hr2⟩ := onRow_app hr
    obtain ⟨s', hs', z1, z2⟩ := hR q' hq'
    obtain ⟨C, hC⟩ := ih t' q' s' l2 hs' z1 z2 hr2
    refine ⟨C + 4 + s + 2 * s', fun M hM => ?_⟩
    have ihM := hC M hM
    have hd : 0 < nrm (sb B A) := nrm_pos hAB
    have kb := K_bend hM hu hd hd' hst
    have kb' := Int.mul_le_mul_of_nonneg_left kb hs'
    rw [Int.mul_add] at kb'
    have k := row_dt M (sb B A) l1 q q'
    have e1 : dt (sb B A) (sb q' q) = 2 * nrm (sb B A) + s' * dt (sb B A) t' - (s * dt (sb B A) t) := by
      simp only [dt, sb, dbl, nrm, h1, h2, z1, z2]; grind
    rw [e1] at k
    have kh := K_hi M (sb B A) t
    have kl := K_lo M (sb B A) t'
    have p := al_pos M (sb B A)
    have ll := len_lo M (sb B A)
    have g1 := Int.mul_le_mul_of_nonneg_left (Int.le_of_lt kh) hs
    have g2 := Int.mul_le_mul_of_nonneg_left kl hs'
    have e2 : M * M * (2 * nrm (sb B A) + s' * dt (sb B A) t' - (s * dt (sb B A) t)) = 2 * (M * M * nrm (sb B A)) + s' * (M * M * dt (sb B A) t') - (s * (M * M * dt (sb B A) t)) := by grind
    have e3 : s * ((K M (sb B A) t + 1) * al M (sb B A)) = (s * K M (sb B A) t + s) * al M (sb B A) := by grind
    have e4 : s' * (K M (sb B A) t' * al M (sb B A)) = (s' * K M (sb B A) t') * al M (sb B A) := by grind
    have e6 : 2 * (len M (sb B A) * len M (sb B A)) = (2 * al M (sb B A) - 4) * al M (sb B A) + 2 := by unfold al; grind
    have e5 : (sumP (al M) (q :: (l1 ++ [q'])) + s * K M (sb B A) t + s + 4 - 2 * al M (sb B A) - s' * K M (sb B A) t') * al M (sb B A) = al M (sb B A) * sumP (al M) (q :: (l1 ++ [q'])) + (s * K M (sb B A) t + s) * al M (sb B A) - (2 * al M (sb B A) - 4) * al M (sb B A) - (s' * K M (sb B A) t') * al M (sb B A) := by grind
    have fin : 0 ≤ (sumP (al M) (q :: (l1 ++ [q'])) + s * K M (sb B A) t + s + 4 - 2 * al M (sb B A) - s' * K M (sb B A) t') * al M (sb B A) := by omega
    have := nonneg_of_mul fin p
    have b2 : len M (sb (dbl B) (dbl A)) ≤ 2 * al M (sb B A) := by
      have f1 := len_lo M (sb (dbl B) (dbl A))
      have f2 := len_hi M (sb B A)
      have e7 : M * M * nrm (sb (dbl B) (dbl A)) = 4 * (M * M * nrm (sb B A)) := by simp only [nrm, sb, dbl]; grind
      refine le_of_sq (by omega) ?_
      have e8 : 2 * al M (sb B A) * (2 * al M (sb B A)) = 4 * (al M (sb B A) * al M (sb B A)) := by grind
      omega
    have sp := sumP_app (al M) (q :: l1) q' l2
    simp only [List.map_cons, List.cons_append, sumP] at sp ihM ⊢
    omega
end FP
namespace FP
def isStr (a b c : Pt) : Bool := if cross a b c ≠ 0 then false else decide (0 < (b.1 - a.1) * (c.1 - b.1) + (b.2 - a.2) * (c.2 - b.2))
/-- what is kept behind k -/
def prune : Pt → List Pt → List Pt
  | _, [] => []
  | _, [z] => [z]
  | k, b :: c :: r => if isStr k b c then prune k (c :: r) else b :: prune b (c :: r)
theorem sb_dbl (a b : Pt) : sb (dbl a) (dbl b) = dbl (sb a b) := by
  simp only [sb, dbl]; exact Prod.ext (by show 2 * a.1 - 2 * b.1 = 2 * (a.1 - b.1); omega) (by show 2 * a.2 - 2 * b.2 = 2 * (a.2 - b.2); omega)
theorem prune_le (M : Int) : ∀ (l : List Pt) (k : Pt), sumP (len M) ((k :: prune k l).map dbl) ≤ sumP (len M) ((k :: l).map dbl) + (l.length : Int)
  | [], k => by simp [prune, sumP]
  | [z], k => by simp [prune, sumP]; omega
  | b :: c :: r, k => by
    unfold prune
    split
    · have ih := prune_le M (c :: r) k
      have t := len_tri M (dbl k) (dbl b) (dbl c)
      simp only [List.map_cons, sumP, List.length_cons, Int.natCast_add] at ih ⊢
      have e : ((1 : Nat) : Int) = 1 := rfl
      omega
    · have ih := prune_le M (c :: r) b
      simp only [List.map_cons, sumP, List.length_cons, Int.natCast_add] at ih ⊢
      have e : ((1 : Nat) : Int) = 1 := rfl
      omega
theorem scale_lo {S k : Int} (hk : 1 ≤ k) (v : Pt) : k * len S v ≤ len (S * k) v := by
  have h1 := len_lo S v
  have h2 := len_hi (S * k) v
  have p := al_pos (S * k) v
  have e : k * len S v * (k * len S v) = k * k * (len S v * len S v) := by grind
  have e2 : S * k * (S * k) * nrm v = k * k * (S * S * nrm v) := by grind
  have h3 := Int.mul_le_mul_of_nonneg_left h1 (sq0 k)
  have := lt_of_sq (a := k * len S v) (b := al (S * k) v) (by omega) (by omega)
  unfold al at this
  omega
theorem scale_hi {S k : Int} (hk : 1 ≤ k) (v : Pt) : al (S * k) v ≤ k * (len S v + 1) := by
  have h1 := len_lo (S * k) v
  have h2 := len_hi S v
  have n := len_nonneg S v
  have e2 : S * k * (S * k) * nrm v = k * k * (S * S * nrm v) := by grind
  have e3 : k * al S v * (k * al S v) = k * k * (al S v * al S v) := by grind
  have h3 := Int.mul_lt_mul_of_pos_left h2 (Int.mul_pos (by omega : 0 < k) (by omega : 0 < k))
  have p := al_pos S v
  have := lt_of_sq (a := len (S * k) v) (b := k * al S v) (Int.mul_nonneg (by omega) (by omega)) (by omega)
  unfold al at this ⊢
  omega
theorem sum_lo {S k : Int} (hk : 1 ≤ k) : ∀ l : List Pt, k * sumP (len S) l ≤ sumP (len (S * k)) l
  | [] => by simp [sumP]
  | [_] => by simp [sumP]
  | a :: b :: r => by
    have ih := sum_lo (S := S) hk (b :: r)
    have h := scale_lo (S := S) hk (sb b a)
    simp only [sumP]
    rw [Int.mul_add]
    omega
theorem sum_hi {S k : Int} (hk : 1 ≤ k) : ∀ (l : List Pt) (a : Pt), sumP (al (S * k)) (a :: l) ≤ k * (sumP (len S) (a :: l) + (l.length : Int))
  | [], a => by simp [sumP]
  | b :: r, a => by
    have ih := sum_hi (S := S) hk r b
    have h := scale_hi (S := S) hk (sb b a)
    simp only [sumP, List.length_cons, Int.natCast_add]
    have e : k * (len S (sb b a) + sumP (len S) (b :: r) + (↑r.length + ((1 : Nat) : Int))) = k * (len S (sb b a) + 1) + k * (sumP (len S) (b :: r) + (r.length : Int)) := by
      have e : ((1 : Nat) : Int) = 1 := rfl
      rw [e]; grind
    omega
/-- the taut string (mirror) -/
def tautPts (s : Pt) (gates : List Gate) (e : Pt) : List Pt := s :: prune s (pathOf e s (bds gates e (gates.length + 1) s 0))
theorem low_le {s e : Pt} {gates : List Gate} {row : List Pt} {S : Int} (hS : 1 ≤ S) (hB : Before s gates) (hC : CH e gates) (hG : ∀ g ∈ gates, GOk g) (hr : OnRow e gates row) :
    sumP (len S) ((tautPts s gates e).map dbl) ≤ sumP (len S) (dbl s :: row) + (row.length : Int) := by
  have hc := cert_bds gates e (gates.length + 1) s 0 (by rw [List.drop_zero]; exact hB) (by rw [List.drop_zero]; exact hC) hG (by rw [List.drop_zero]; omega)
  rw [List.drop_zero] at hc
  have main : ∃ d C : Int, True ∧ ∀ M : Int, 1 ≤ M → sumP (len M) (dbl s :: (pathOf e s (bds gates e (gates.length + 1) s 0)).map dbl) ≤ sumP (al M) (dbl s :: row) + C := by
    by_cases h : s = nxt e (nb s e none 0 gates)
    · obtain ⟨z1, z2⟩ := hc.2 h
      rw [z2]
      obtain ⟨C, hC'⟩ := lb (.stop (d := (1, 0)) (gs := gates) z1 (by decide)) (1, 0) (dbl s) 0 row (Int.le_refl _) (by simp [dbl]) (by simp [dbl]) hr
      exact ⟨0, C, trivial, fun M hM => by have := hC' M hM; rw [Int.zero_mul] at this; simp only [List.map_nil] at this ⊢; omega⟩
    · obtain ⟨C, hC'⟩ := lb (hc.1 h) (1, 0) (dbl s) 0 row (Int.le_refl _) (by simp [dbl]) (by simp [dbl]) hr
      exact ⟨0, C, trivial, fun M hM => by have := hC' M hM; rw [Int.zero_mul] at this; omega⟩
  obtain ⟨_, C, _, hC'⟩ := main
  -- let the scale grow
  apply Decidable.byContradiction
  intro hh
  let P := (pathOf e s (bds gates e (gates.length + 1) s 0))
  let k : Int := (C + P.length).natAbs + 1
  have hk : 1 ≤ k := by show (1 : Int) ≤ (C + P.length).natAbs + 1; omega
  have hM : 1 ≤ S * k := by
    have := Int.mul_le_mul hS hk (by decide) (by omega)
    omega
  have h1 := hC' (S * k) hM
  have h2 := sum_hi (S := S) hk row (dbl s)
  have h3 := sum_lo (S := S) hk ((tautPts s gates e).map dbl)
  have h4 := prune_le (S * k) P s
  have h5 : sumP (len (S * k)) ((tautPts s gates e).map dbl) = sumP (len (S * k)) ((s :: prune s P).map dbl) := rfl
  have h6 : sumP (len (S * k)) ((s :: P).map dbl) = sumP (len (S * k)) (dbl s :: P.map dbl) := rfl
  have h7 : k * (sumP (len S) (dbl s :: row) + (row.length : Int) + 1) ≤ k * sumP (len S) ((tautPts s gates e).map dbl) := Int.mul_le_mul_of_nonneg_left (by omega) (by omega)
  rw [Int.mul_add k _ 1] at h7
  have hk2 : C + P.length < k := by show C + (P.length : Int) < (C + P.length).natAbs + 1; omega
  have h8 : sumP (len (S * k)) (dbl s :: P.map dbl) ≤ sumP (al (S * k)) (dbl s :: row) + C := h1
  omega
end FP
namespace FP
/-- the floor of S times a part's length, whether it is exact, and rounded up -/
def sq2 (S : Int) (v : Pt) : Int := v.1 * S * (v.1 * S) + v.2 * S * (v.2 * S)
def lw (S : Int) (v : Pt) : Int := rt (sq2 S v)
def exq (S : Int) (v : Pt) : Bool := decide (lw S v * lw S v = sq2 S v)
def hw (S : Int) (v : Pt) : Int := if exq S v = true then lw S v else lw S v + 1
def allP (f : Pt → Bool) : List Pt → Bool
  | a :: b :: r => f (sb b a) && allP f (b :: r)
  | _ => true
theorem sumP_take (f : Pt → Int) : ∀ (l : List Pt) (i : Nat) (a b : Pt), l[i]? = some a → l[i + 1]? = some b → sumP f (l.take (i + 2)) = sumP f (l.take (i + 1)) + f (sb b a)
  | [], _, _, _, h, _ => by simp at h
  | [_], 0, _, _, _, h => by simp at h
  | [_], i + 1, _, _, h, _ => by simp at h
  | x :: y :: r, 0, a, b, h, h2 => by
    simp at h h2
    subst h; subst h2
    simp [sumP]
  | x :: y :: r, i + 1, a, b, h, h2 => by
    have := sumP_take f (y :: r) i a b (by simpa using h) (by simpa using h2)
    simp only [List.take_succ_cons, sumP] at this ⊢
    omega
theorem allP_take (f : Pt → Bool) : ∀ (l : List Pt) (i : Nat) (a b : Pt), l[i]? = some a → l[i + 1]? = some b → allP f (l.take (i + 2)) = (allP f (l.take (i + 1)) && f (sb b a))
  | [], _, _, _, h, _ => by simp at h
  | [_], 0, _, _, _, h => by simp at h
  | [_], i + 1, _, _, h, _ => by simp at h
  | x :: y :: r, 0, a, b, h, h2 => by
    simp at h h2
    subst h; subst h2
    simp [allP]
  | x :: y :: r, i + 1, a, b, h, h2 => by
    have := allP_take f (y :: r) i a b (by simpa using h) (by simpa using h2)
    simp only [List.take_succ_cons, allP] at this ⊢
    rw [this, Bool.and_assoc]
theorem sumP_one (f : Pt → Int) (l : List Pt) : sumP f (l.take 1) = 0 := by
  cases l with
  | nil => rfl
  | cons a r => simp [sumP]
theorem allP_one (f : Pt → Bool) (l : List Pt) : allP f (l.take 1) = true := by
  cases l with
  | nil => rfl
  | cons a r => simp [allP]
theorem mul_bd {x S A B : Int} (h1 : -A ≤ x) (h2 : x ≤ A) (h3 : 0 ≤ S) (h4 : S ≤ B) (hA : 0 ≤ A) : -(A * B) ≤ x * S ∧ x * S ≤ A * B := by
  have e1 : x * S ≤ A * S := Int.mul_le_mul_of_nonneg_right h2 h3
  have e2 : A * S ≤ A * B := Int.mul_le_mul_of_nonneg_left h4 hA
  have e3 : -A * S ≤ x * S := Int.mul_le_mul_of_nonneg_right h1 h3
  rw [Int.neg_mul] at e3
  omega
theorem sqr_bd {x A : Int} (h1 : -A ≤ x) (h2 : x ≤ A) : x * x ≤ A * A := by
  rcases Int.le_total 0 x with h | h
  · exact Int.mul_le_mul h2 h2 h (by omega)
  · have := Int.mul_le_mul (show -x ≤ A by omega) (show -x ≤ A by omega) (by omega) (by omega)
    rw [Int.neg_mul_neg] at this
    exact this
theorem sq2_bd {S : Int} {v : Pt} (h1 : -2000000 ≤ v.1) (h2 : v.1 ≤ 2000000) (h3 : -2000000 ≤ v.2) (h4 : v.2 ≤ 2000000) (h5 : 0 ≤ S) (h6 : S ≤ 2000000000) :
    (-4000000000000000 ≤ v.1 * S ∧ v.1 * S ≤ 4000000000000000) ∧ (-4000000000000000 ≤ v.2 * S ∧ v.2 * S ≤ 4000000000000000) ∧ 0 ≤ sq2 S v ∧ sq2 S v < 2 ^ 120 := by
  have a := mul_bd h1 h2 h5 h6 (by decide)
  have b := mul_bd h3 h4 h5 h6 (by decide)
  have c := sqr_bd (A := 4000000000000000) (x := v.1 * S) (by omega) (by omega)
  have d := sqr_bd (A := 4000000000000000) (x := v.2 * S) (by omega) (by omega)
  have s1 := sq0 (v.1 * S)
  have s2 := sq0 (v.2 * S)
  unfold sq2
  have : (2 : Int) ^ 120 = 1329227995784915872903807060280344576 := by decide
  refine ⟨⟨by omega, by omega⟩, ⟨by omega, by omega⟩, by omega, by omega⟩
theorem rt_small {n : Int} (h0 : 0 ≤ n) (h1 : n < 2 ^ 120) : rt n < 2 ^ 61 := by
  have h := (rt_spec h0).1
  apply Decidable.byContradiction
  intro hh
  have := Int.mul_le_mul (show (2 : Int) ^ 61 ≤ rt n by omega) (show (2 : Int) ^ 61 ≤ rt n by omega) (by decide) (by omega)
  omega
end FP
namespace FP
theorem misses_inv {A l r : Pt} {st : Option (Bd × Bd)} {b : Bd} {P : Bd → Prop} (hst : ∀ L R, st = some (L, R) → P L ∧ P R) (h : misses A st l r = some b) : P b := by
  cases st with
  | none => cases h
  | some LR =>
    obtain ⟨L, R⟩ := LR
    obtain ⟨h1, h2⟩ := hst L R rfl
    simp only [misses] at h
    split at h
    · cases h; exact h1
    · split at h
      · cases h; exact h2
      · cases h
theorem narrow_inv {A : Pt} {st : Option (Bd × Bd)} {g : Gate} {k : Nat} {P : Bd → Prop} (hst : ∀ L R, st = some (L, R) → P L ∧ P R) (h1 : P (g.1, k)) (h2 : P (g.2, k)) : ∀ L R, narrow A st g k = some (L, R) → P L ∧ P R := by
  intro L R h
  cases st with
  | none => cases h; exact ⟨h1, h2⟩
  | some LR =>
    obtain ⟨L0, R0⟩ := LR
    obtain ⟨q1, q2⟩ := hst L0 R0 rfl
    simp only [narrow] at h
    injection h with h
    injection h with e1 e2
    subst e1; subst e2
    constructor
    · split <;> assumption
    · split <;> assumption
theorem nb_inv {A e : Pt} {P : Bd → Prop} : ∀ (gs : List Gate) (st : Option (Bd × Bd)) (k : Nat) (b : Bd), (∀ L R, st = some (L, R) → P L ∧ P R) →
    (∀ (i : Nat) (g : Gate), gs[i]? = some g → P (g.1, k + i) ∧ P (g.2, k + i)) → nb A e st k gs = some b → P b
  | [], st, k, b, hst, _, h => misses_inv hst h
  | g :: gs, st, k, b, hst, hn, h => by
    obtain ⟨p1, p2⟩ := hn 0 g rfl
    have hn' : ∀ (i : Nat) (g : Gate), gs[i]? = some g → P (g.1, k + 1 + i) ∧ P (g.2, k + 1 + i) := fun i g' e => by
      have := hn (i + 1) g' (by simpa using e)
      rw [show k + (i + 1) = k + 1 + i by omega] at this
      exact this
    simp only [nb] at h
    split at h
    · split at h
      · exact nb_inv gs st (k + 1) b hst hn' h
      · split at h
        · cases h
          exact near_cases (P := fun X => P (X, k)) p1 p2
        · rename_i q
          cases h
          exact misses_inv hst q
    · split at h
      · rename_i q
        cases h
        exact misses_inv hst q
      · exact nb_inv gs _ (k + 1) b (narrow_inv hst p1 p2) hn' h
/-- the next bend's number is that of a gate ahead, its point an end of it -/
theorem nb_at {A e : Pt} {gates : List Gate} {first : Nat} {b : Bd} (h : nb A e none first (gates.drop first) = some b) :
    first ≤ b.2 ∧ b.2 < gates.length ∧ ∃ g ∈ gates, b.1 = g.1 ∨ b.1 = g.2 := by
  refine nb_inv (P := fun b => first ≤ b.2 ∧ b.2 < gates.length ∧ ∃ g ∈ gates, b.1 = g.1 ∨ b.1 = g.2) (gates.drop first) none first b (by intro L R q; cases q) (fun i g e => ?_) h
  have hi : i < (gates.drop first).length := (List.getElem?_eq_some_iff.mp e).1
  rw [List.length_drop] at hi
  have hm : g ∈ gates := List.mem_of_mem_drop (List.mem_of_getElem? e)
  exact ⟨⟨by show first ≤ first + i; omega, by show first + i < _; omega, g, hm, .inl rfl⟩, ⟨by show first ≤ first + i; omega, by show first + i < _; omega, g, hm, .inr rfl⟩⟩
theorem pathOf_eq (e : Pt) : ∀ (bs : List Bd) (A : Pt), A :: pathOf e A bs = (A :: bs.map (·.1)) ++ (if ((A :: bs.map (·.1)).getLast (List.cons_ne_nil _ _)) = e then [] else [e])
  | [], A => by
    show A :: (if A = e then [] else [e]) = [A] ++ (if A = e then [] else [e])
    rfl
  | b :: bs, A => by
    have ih := pathOf_eq e bs b.1
    simp only [pathOf, List.map_cons, List.getLast_cons_cons] at ih ⊢
    rw [ih]
    rfl
theorem bds_sm {gates : List Gate} {e : Pt} {P : Pt → Prop} (hP : ∀ g ∈ gates, P g.1 ∧ P g.2) : ∀ (f : Nat) (A : Pt) (first : Nat), ∀ b ∈ bds gates e f A first, P b.1
  | 0, _, _, b, h => by cases h
  | f + 1, A, first, b, h => by
    unfold bds at h
    split at h
    · cases h
    · rename_i b0 q
      obtain ⟨_, _, g, hg, hb⟩ := nb_at q
      rcases List.mem_cons.mp h with rfl | h
      · obtain ⟨p1, p2⟩ := hP g hg
        rcases hb with hb | hb <;> rw [hb] <;> assumption
      · exact bds_sm hP f _ _ b h
theorem prune_mem : ∀ (l : List Pt) (k : Pt), ∀ x ∈ prune k l, x ∈ l
  | [], k, x, h => h
  | [z], k, x, h => h
  | b :: c :: r, k, x, h => by
    unfold prune at h
    split at h
    · exact List.mem_cons_of_mem _ (prune_mem (c :: r) k x h)
    · rcases List.mem_cons.mp h with rfl | h
      · exact List.mem_cons_self ..
      · exact List.mem_cons_of_mem _ (prune_mem (c :: r) b x h)
theorem prune_len : ∀ (l : List Pt) (k : Pt), (prune k l).length ≤ l.length
  | [], k => Nat.le_refl _
  | [z], k => Nat.le_refl _
  | b :: c :: r, k => by
    unfold prune
    split
    · have := prune_len (c :: r) k
      simp only [List.length_cons] at this ⊢
      omega
    · have := prune_len (c :: r) b
      simp only [List.length_cons] at this ⊢
      omega
end FP
namespace FP
structure Rect where
  x0 : Int
  z0 : Int
  x1 : Int
  z1 : Int
def InR (r : Rect) (p : Pt) : Prop := r.x0 ≤ p.1 ∧ p.1 ≤ r.x1 ∧ r.z0 ≤ p.2 ∧ p.2 ≤ r.z1
/-- the range of a side -/
def loS (r : Rect) (s : Int) : Int := if s % 2 = 0 then r.z0 else r.x0
def hiS (r : Rect) (s : Int) : Int := if s % 2 = 0 then r.z1 else r.x1
/-- the gate of the portal from a to b on the side s, as seen from the rectangle -/
def gateOn (r : Rect) (s a b : Int) : Gate :=
  if s = 0 then ((r.x1, a + 1), (r.x1, b - 1)) else if s = 1 then ((b - 1, r.z1), (a + 1, r.z1)) else if s = 2 then ((r.x0, b - 1), (r.x0, a + 1)) else ((a + 1, r.z0), (b - 1, r.z0))
/-- a portal that lies on a side -/
structure OnS (r : Rect) (s a b : Int) : Prop where
  s0 : 0 ≤ s
  s3 : s ≤ 3
  lo : loS r s ≤ a
  wd : a + 3 ≤ b
  hi : b ≤ hiS r s
structure Wide (r : Rect) : Prop where
  x : r.x0 + 3 ≤ r.x1
  z : r.z0 + 3 ≤ r.z1
def swp (g : Gate) : Gate := (g.2, g.1)
theorem side4 {s : Int} (h0 : 0 ≤ s) (h3 : s ≤ 3) : s = 0 ∨ s = 1 ∨ s = 2 ∨ s = 3 := by omega
theorem gateOn_dir {r : Rect} {s a b : Int} (h : OnS r s a b) : ∃ t, GDir (gateOn r s a b) t (b - a - 2) ∧ ∀ X, InR r X → w t (sb X (gateOn r s a b).1) ≤ 0 := by
  obtain ⟨h0, h3, h1, h2, h4⟩ := h
  rcases side4 h0 h3 with rfl | rfl | rfl | rfl
  · refine ⟨(0, 1), ⟨.inr (.inr (.inl rfl)), by omega, ?_, ?_⟩, fun X hX => ?_⟩
    · show r.x1 = r.x1 + (b - a - 2) * 0; omega
    · show b - 1 = a + 1 + (b - a - 2) * 1; omega
    · obtain ⟨q1, q2, q3, q4⟩ := hX
      show 1 * (X.1 - r.x1) - 0 * (X.2 - (a + 1)) ≤ 0; omega
  · refine ⟨(-1, 0), ⟨.inr (.inl rfl), by omega, ?_, ?_⟩, fun X hX => ?_⟩
    · show a + 1 = b - 1 + (b - a - 2) * -1; omega
    · show r.z1 = r.z1 + (b - a - 2) * 0; omega
    · obtain ⟨q1, q2, q3, q4⟩ := hX
      show 0 * (X.1 - (b - 1)) - -1 * (X.2 - r.z1) ≤ 0; omega
  · refine ⟨(0, -1), ⟨.inr (.inr (.inr rfl)), by omega, ?_, ?_⟩, fun X hX => ?_⟩
    · show r.x0 = r.x0 + (b - a - 2) * 0; omega
    · show a + 1 = b - 1 + (b - a - 2) * -1; omega
    · obtain ⟨q1, q2, q3, q4⟩ := hX
      show -1 * (X.1 - r.x0) - 0 * (X.2 - (b - 1)) ≤ 0; omega
  · refine ⟨(1, 0), ⟨.inl rfl, by omega, ?_, ?_⟩, fun X hX => ?_⟩
    · show b - 1 = a + 1 + (b - a - 2) * 1; omega
    · show r.z0 = r.z0 + (b - a - 2) * 0; omega
    · obtain ⟨q1, q2, q3, q4⟩ := hX
      show 0 * (X.1 - (a + 1)) - 1 * (X.2 - r.z0) ≤ 0; omega
theorem gdir_swp {g : Gate} {t : Pt} {c : Int} (h : GDir g t c) : GDir (swp g) (ng t) c := by
  obtain ⟨h1, h2, h3, h4⟩ := h
  refine ⟨unit_ng h1, h2, ?_, ?_⟩
  · show g.1.1 = g.2.1 + c * -t.1
    rw [Int.mul_neg]; omega
  · show g.1.2 = g.2.2 + c * -t.2
    rw [Int.mul_neg]; omega
theorem gok_on {r : Rect} {s a b : Int} (h : OnS r s a b) : GOk (gateOn r s a b) := by
  obtain ⟨t, hd, _⟩ := gateOn_dir h
  exact ⟨t, _, hd⟩
theorem before_on {r : Rect} {s a b : Int} (h : OnS r s a b) {X : Pt} (hX : InR r X) : cross (gateOn r s a b).1 (gateOn r s a b).2 X ≤ 0 := by
  obtain ⟨t, hd, hq⟩ := gateOn_dir h
  rw [(gdir_cross hd X).1]
  have := hq X hX
  have := Int.mul_nonneg (show 0 ≤ b - a - 2 by have := hd.2.1; omega) (show 0 ≤ - w t (sb X (gateOn r s a b).1) by omega)
  rw [Int.mul_neg] at this
  omega
theorem cross_swp (g : Gate) (X : Pt) : cross (swp g).1 (swp g).2 X = - cross g.1 g.2 X := by simp only [cross, swp]; grind
theorem behind_swp {r : Rect} {s a b : Int} (h : OnS r s a b) {X : Pt} (hX : InR r X) : 0 ≤ cross (swp (gateOn r s a b)).1 (swp (gateOn r s a b)).2 X := by
  rw [cross_swp]
  have := before_on h hX
  omega
theorem ends_in {r : Rect} (hw : Wide r) {s a b : Int} (h : OnS r s a b) : InR r (gateOn r s a b).1 ∧ InR r (gateOn r s a b).2 := by
  obtain ⟨h0, h3, h1, h2, h4⟩ := h
  obtain ⟨hx, hz⟩ := hw
  rcases side4 h0 h3 with rfl | rfl | rfl | rfl
  · have e1 : loS r 0 = r.z0 := rfl
    have e2 : hiS r 0 = r.z1 := rfl
    exact ⟨⟨by show r.x0 ≤ r.x1; omega, by show r.x1 ≤ r.x1; omega, by show r.z0 ≤ a + 1; omega, by show a + 1 ≤ r.z1; omega⟩, ⟨by show r.x0 ≤ r.x1; omega, by show r.x1 ≤ r.x1; omega, by show r.z0 ≤ b - 1; omega, by show b - 1 ≤ r.z1; omega⟩⟩
  · have e1 : loS r 1 = r.x0 := rfl
    have e2 : hiS r 1 = r.x1 := rfl
    exact ⟨⟨by show r.x0 ≤ b - 1; omega, by show b - 1 ≤ r.x1; omega, by show r.z0 ≤ r.z1; omega, by show r.z1 ≤ r.z1; omega⟩, ⟨by show r.x0 ≤ a + 1; omega, by show a + 1 ≤ r.x1; omega, by show r.z0 ≤ r.z1; omega, by show r.z1 ≤ r.z1; omega⟩⟩
  · have e1 : loS r 2 = r.z0 := rfl
    have e2 : hiS r 2 = r.z1 := rfl
    exact ⟨⟨by show r.x0 ≤ r.x0; omega, by show r.x0 ≤ r.x1; omega, by show r.z0 ≤ b - 1; omega, by show b - 1 ≤ r.z1; omega⟩, ⟨by show r.x0 ≤ r.x0; omega, by show r.x0 ≤ r.x1; omega, by show r.z0 ≤ a + 1; omega, by show a + 1 ≤ r.z1; omega⟩⟩
  · have e1 : loS r 3 = r.x0 := rfl
    have e2 : hiS r 3 = r.x1 := rfl
    exact ⟨⟨by show r.x0 ≤ a + 1; omega, by show a + 1 ≤ r.x1; omega, by show r.z0 ≤ r.z0; omega, by show r.z0 ≤ r.z1; omega⟩, ⟨by show r.x0 ≤ b - 1; omega, by show b - 1 ≤ r.x1; omega, by show r.z0 ≤ r.z0; omega, by show r.z0 ≤ r.z1; omega⟩⟩
/-- an end of the one is off the other -/
theorem off_line {g : Gate} {t : Pt} {c : Int} (h : GDir g t c) {X : Pt} (hX : w t (sb X g.1) ≠ 0) : off g X := by
  refine .inl ?_
  rw [(gdir_cross h X).1]
  intro q
  rcases Int.mul_eq_zero.mp q with z | z
  · have := h.2.1; omega
  · exact hX z
/-- X on the gate's line, outside: both differences have one sign -/
theorem off_x {g : Gate} {X : Pt} (h : (X.1 < g.1.1 ∧ X.1 < g.2.1) ∨ (g.1.1 < X.1 ∧ g.2.1 < X.1)) (hz : g.1.2 = X.2 ∨ g.2.2 = X.2) : off g X := by
  refine .inr ?_
  show 0 < (g.1.1 - X.1) * (g.2.1 - X.1) + (g.1.2 - X.2) * (g.2.2 - X.2)
  have e : (g.1.2 - X.2) * (g.2.2 - X.2) = 0 := by
    rcases hz with z | z
    · rw [z]; simp
    · rw [z]; simp
  rw [e]
  rcases h with ⟨h1, h2⟩ | ⟨h1, h2⟩
  · have := Int.mul_pos (show 0 < g.1.1 - X.1 by omega) (show 0 < g.2.1 - X.1 by omega)
    omega
  · have := Int.mul_pos (show 0 < X.1 - g.1.1 by omega) (show 0 < X.1 - g.2.1 by omega)
    have e2 : (X.1 - g.1.1) * (X.1 - g.2.1) = (g.1.1 - X.1) * (g.2.1 - X.1) := by grind
    omega
theorem off_z {g : Gate} {X : Pt} (h : (X.2 < g.1.2 ∧ X.2 < g.2.2) ∨ (g.1.2 < X.2 ∧ g.2.2 < X.2)) (hz : g.1.1 = X.1 ∨ g.2.1 = X.1) : off g X := by
  refine .inr ?_
  show 0 < (g.1.1 - X.1) * (g.2.1 - X.1) + (g.1.2 - X.2) * (g.2.2 - X.2)
  have e : (g.1.1 - X.1) * (g.2.1 - X.1) = 0 := by
    rcases hz with z | z
    · rw [z]; simp
    · rw [z]; simp
  rw [e]
  rcases h with ⟨h1, h2⟩ | ⟨h1, h2⟩
  · have := Int.mul_pos (show 0 < g.1.2 - X.2 by omega) (show 0 < g.2.2 - X.2 by omega)
    omega
  · have := Int.mul_pos (show 0 < X.2 - g.1.2 by omega) (show 0 < X.2 - g.2.2 by omega)
    have e2 : (X.2 - g.1.2) * (X.2 - g.2.2) = (g.1.2 - X.2) * (g.2.2 - X.2) := by grind
    omega
/-- the form of a gate on a side: its line, and the range along it -/
theorem on_form {r : Rect} {s a b : Int} (h0 : 0 ≤ s) (h3 : s ≤ 3) : ∀ X, (X = (gateOn r s a b).1 ∨ X = (gateOn r s a b).2) →
    (s = 0 ∧ X.1 = r.x1 ∧ (X.2 = a + 1 ∨ X.2 = b - 1)) ∨ (s = 1 ∧ X.2 = r.z1 ∧ (X.1 = a + 1 ∨ X.1 = b - 1)) ∨ (s = 2 ∧ X.1 = r.x0 ∧ (X.2 = a + 1 ∨ X.2 = b - 1)) ∨ (s = 3 ∧ X.2 = r.z0 ∧ (X.1 = a + 1 ∨ X.1 = b - 1)) := by
  intro X hX
  rcases side4 h0 h3 with rfl | rfl | rfl | rfl
  · exact .inl ⟨rfl, by rcases hX with rfl | rfl <;> rfl, by rcases hX with rfl | rfl; exact .inl rfl; exact .inr rfl⟩
  · exact .inr (.inl ⟨rfl, by rcases hX with rfl | rfl <;> rfl, by rcases hX with rfl | rfl; exact .inr rfl; exact .inl rfl⟩)
  · exact .inr (.inr (.inl ⟨rfl, by rcases hX with rfl | rfl <;> rfl, by rcases hX with rfl | rfl; exact .inr rfl; exact .inl rfl⟩))
  · exact .inr (.inr (.inr ⟨rfl, by rcases hX with rfl | rfl <;> rfl, by rcases hX with rfl | rfl; exact .inl rfl; exact .inr rfl⟩))
theorem off_on {r : Rect} (hw : Wide r) {s a b s' a' b' : Int} (h : OnS r s a b) (h' : OnS r s' a' b') (hn : s = s' → b ≤ a' ∨ b' ≤ a) {X : Pt} (hX : X = (gateOn r s' a' b').1 ∨ X = (gateOn r s' a' b').2) : off (gateOn r s a b) X := by
  have f := on_form h'.s0 h'.s3 X hX
  obtain ⟨h0, h3, h1, h2, h4⟩ := h
  obtain ⟨h0', h3', h1', h2', h4'⟩ := h'
  obtain ⟨hx, hz⟩ := hw
  rcases side4 h0 h3 with rfl | rfl | rfl | rfl
  · have e1 : loS r 0 = r.z0 := rfl
    have e2 : hiS r 0 = r.z1 := rfl
    rcases f with ⟨rfl, f1, f2⟩ | ⟨rfl, f1, f2⟩ | ⟨rfl, f1, f2⟩ | ⟨rfl, f1, f2⟩
    · have := hn rfl
      refine off_z ?_ (.inl f1.symm)
      show (X.2 < a + 1 ∧ X.2 < b - 1) ∨ (a + 1 < X.2 ∧ b - 1 < X.2)
      omega
    · have e3 : hiS r 1 = r.x1 := rfl
      have e4 : loS r 1 = r.x0 := rfl
      refine off_line (t := (0, 1)) (c := b - a - 2) ⟨.inr (.inr (.inl rfl)), by omega, by show r.x1 = r.x1 + (b - a - 2) * 0; omega, by show b - 1 = a + 1 + (b - a - 2) * 1; omega⟩ ?_
      show 1 * (X.1 - r.x1) - 0 * (X.2 - (a + 1)) ≠ 0
      omega
    · refine off_line (t := (0, 1)) (c := b - a - 2) ⟨.inr (.inr (.inl rfl)), by omega, by show r.x1 = r.x1 + (b - a - 2) * 0; omega, by show b - 1 = a + 1 + (b - a - 2) * 1; omega⟩ ?_
      show 1 * (X.1 - r.x1) - 0 * (X.2 - (a + 1)) ≠ 0
      omega
    · have e3 : hiS r 3 = r.x1 := rfl
      have e4 : loS r 3 = r.x0 := rfl
      refine off_line (t := (0, 1)) (c := b - a - 2) ⟨.inr (.inr (.inl rfl)), by omega, by show r.x1 = r.x1 + (b - a - 2) * 0; omega, by show b - 1 = a + 1 + (b - a - 2) * 1; omega⟩ ?_
      show 1 * (X.1 - r.x1) - 0 * (X.2 - (a + 1)) ≠ 0
      omega
  · have e1 : loS r 1 = r.x0 := rfl
    have e2 : hiS r 1 = r.x1 := rfl
    have d : GDir (gateOn r 1 a b) (-1, 0) (b - a - 2) := ⟨.inr (.inl rfl), by omega, by show a + 1 = b - 1 + (b - a - 2) * -1; omega, by show r.z1 = r.z1 + (b - a - 2) * 0; omega⟩
    rcases f with ⟨rfl, f1, f2⟩ | ⟨rfl, f1, f2⟩ | ⟨rfl, f1, f2⟩ | ⟨rfl, f1, f2⟩
    · have e3 : hiS r 0 = r.z1 := rfl
      have e4 : loS r 0 = r.z0 := rfl
      refine off_line d ?_
      show 0 * (X.1 - (b - 1)) - -1 * (X.2 - r.z1) ≠ 0
      omega
    · have := hn rfl
      refine off_x ?_ (.inl f1.symm)
      show (X.1 < b - 1 ∧ X.1 < a + 1) ∨ (b - 1 < X.1 ∧ a + 1 < X.1)
      omega
    · have e3 : hiS r 2 = r.z1 := rfl
      have e4 : loS r 2 = r.z0 := rfl
      refine off_line d ?_
      show 0 * (X.1 - (b - 1)) - -1 * (X.2 - r.z1) ≠ 0
      omega
    · refine off_line d ?_
      show 0 * (X.1 - (b - 1)) - -1 * (X.2 - r.z1) ≠ 0
      omega
  · have e1 : loS r 2 = r.z0 := rfl
    have e2 : hiS r 2 = r.z1 := rfl
    have d : GDir (gateOn r 2 a b) (0, -1) (b - a - 2) := ⟨.inr (.inr (.inr rfl)), by omega, by show r.x0 = r.x0 + (b - a - 2) * 0; omega, by show a + 1 = b - 1 + (b - a - 2) * -1; omega⟩
    rcases f with ⟨rfl, f1, f2⟩ | ⟨rfl, f1, f2⟩ | ⟨rfl, f1, f2⟩ | ⟨rfl, f1, f2⟩
    · refine off_line d ?_
      show -1 * (X.1 - r.x0) - 0 * (X.2 - (b - 1)) ≠ 0
      omega
    · have e3 : hiS r 1 = r.x1 := rfl
      have e4 : loS r 1 = r.x0 := rfl
      refine off_line d ?_
      show -1 * (X.1 - r.x0) - 0 * (X.2 - (b - 1)) ≠ 0
      omega
    · have := hn rfl
      refine off_z ?_ (.inl f1.symm)
      show (X.2 < b - 1 ∧ X.2 < a + 1) ∨ (b - 1 < X.2 ∧ a + 1 < X.2)
      omega
    · have e3 : hiS r 3 = r.x1 := rfl
      have e4 : loS r 3 = r.x0 := rfl
      refine off_line d ?_
      show -1 * (X.1 - r.x0) - 0 * (X.2 - (b - 1)) ≠ 0
      omega
  · have e1 : loS r 3 = r.x0 := rfl
    have e2 : hiS r 3 = r.x1 := rfl
    have d : GDir (gateOn r 3 a b) (1, 0) (b - a - 2) := ⟨.inl rfl, by omega, by show b - 1 = a + 1 + (b - a - 2) * 1; omega, by show r.z0 = r.z0 + (b - a - 2) * 0; omega⟩
    rcases f with ⟨rfl, f1, f2⟩ | ⟨rfl, f1, f2⟩ | ⟨rfl, f1, f2⟩ | ⟨rfl, f1, f2⟩
    · have e3 : hiS r 0 = r.z1 := rfl
      have e4 : loS r 0 = r.z0 := rfl
      refine off_line d ?_
      show 0 * (X.1 - (a + 1)) - 1 * (X.2 - r.z0) ≠ 0
      omega
    · refine off_line d ?_
      show 0 * (X.1 - (a + 1)) - 1 * (X.2 - r.z0) ≠ 0
      omega
    · have e3 : hiS r 2 = r.z1 := rfl
      have e4 : loS r 2 = r.z0 := rfl
      refine off_line d ?_
      show 0 * (X.1 - (a + 1)) - 1 * (X.2 - r.z0) ≠ 0
      omega
    · have := hn rfl
      refine off_x ?_ (.inl f1.symm)
      show (X.1 < a + 1 ∧ X.1 < b - 1) ∨ (a + 1 < X.1 ∧ b - 1 < X.1)
      omega
theorem off_swp {g : Gate} {X : Pt} (h : off g X) : off (swp g) X := by
  unfold off at h ⊢
  rw [cross_swp]
  rcases h with h | h
  · exact .inl (by omega)
  · refine .inr ?_
    have : dt (sb (swp g).1 X) (sb (swp g).2 X) = dt (sb g.1 X) (sb g.2 X) := by simp only [dt, sb, swp]; grind
    omega
/-- entering a rectangle by the one portal and leaving it by the other -/
theorem link_on {r : Rect} (hw : Wide r) {s a b s' a' b' : Int} (h : OnS r s a b) (h' : OnS r s' a' b') (hn : s = s' → b ≤ a' ∨ b' ≤ a) : Link (swp (gateOn r s a b)) (gateOn r s' a' b') := by
  obtain ⟨i1, i2⟩ := ends_in hw h
  obtain ⟨j1, j2⟩ := ends_in hw h'
  have hn' : s' = s → b' ≤ a ∨ b ≤ a' := fun q => (hn q.symm).symm
  exact ⟨behind_swp h j1, behind_swp h j2, before_on h' i2, before_on h' i1, off_swp (off_on hw h h' hn (.inl rfl)), off_swp (off_on hw h h' hn (.inr rfl)), off_on hw h' h hn' (.inr rfl), off_on hw h' h hn' (.inl rfl)⟩
/-! ### the corridor as it grows: the gates so far, the first and the last rectangle, the portal by which the last one was entered -/
inductive Cor (first : Rect) : List Gate → Rect → Option (Int × Int × Int) → Prop
  | nil : Wide first → Cor first [] first none
  | snoc {gs : List Gate} {r r' : Rect} {u : Option (Int × Int × Int)} {s a b s' : Int} : Cor first gs r u → OnS r s a b → (∀ su ua ub, u = some (su, ua, ub) → su = s → ub ≤ a ∨ b ≤ ua) →
      Wide r' → OnS r' s' a b → swp (gateOn r' s' a b) = gateOn r s a b → Cor first (gs ++ [gateOn r s a b]) r' (some (s', a, b))
theorem Cor.wide {first : Rect} {gs : List Gate} {r : Rect} {u : Option (Int × Int × Int)} (h : Cor first gs r u) : Wide r := by
  cases h with
  | nil h => exact h
  | snoc _ _ _ h _ _ => exact h
/-- what the last gate is, seen from the last rectangle -/
theorem Cor.last {first : Rect} {gs : List Gate} {r : Rect} {u : Option (Int × Int × Int)} (h : Cor first gs r u) : (gs = [] ∧ u = none ∧ r = first) ∨ ∃ gs' s a b, gs = gs' ++ [swp (gateOn r s a b)] ∧ u = some (s, a, b) ∧ OnS r s a b := by
  cases h with
  | nil h => exact .inl ⟨rfl, rfl, rfl⟩
  | snoc h1 h2 h3 h4 h5 h6 => exact .inr ⟨_, _, _, _, by rw [h6], rfl, h5⟩
theorem ch_snoc {e e' : Pt} : ∀ {gs : List Gate} {g h : Gate}, CH e (gs ++ [g]) → Link g h → 0 ≤ cross h.1 h.2 e' → CH e' (gs ++ [g] ++ [h])
  | [], g, h, _, K, he => ⟨K, he⟩
  | [x], g, h, c, K, he => ⟨c.1, K, he⟩
  | x :: y :: r, g, h, c, K, he => ⟨c.1, ch_snoc (gs := y :: r) c.2 K he⟩
theorem ch_end {e e' : Pt} : ∀ {gs : List Gate} {g : Gate}, CH e (gs ++ [g]) → 0 ≤ cross g.1 g.2 e' → CH e' (gs ++ [g])
  | [], g, _, he => he
  | [x], g, c, he => ⟨c.1, he⟩
  | x :: y :: r, g, c, he => ⟨c.1, ch_end (gs := y :: r) c.2 he⟩
theorem Cor.ch {first : Rect} {gs : List Gate} {r : Rect} {u : Option (Int × Int × Int)} (h : Cor first gs r u) : ∀ e, InR r e → CH e gs := by
  induction h with
  | nil _ => exact fun _ _ => trivial
  | @snoc gs r r' u s a b s' h1 h2 h3 h4 h5 h6 ih =>
    intro e he
    have hb : 0 ≤ cross (gateOn r s a b).1 (gateOn r s a b).2 e := by
      rw [← h6]
      exact behind_swp h5 he
    rcases h1.last with ⟨rfl, _, _⟩ | ⟨gs', su, ua, ub, rfl, rfl, hu⟩
    · exact hb
    · have K : Link (swp (gateOn r su ua ub)) (gateOn r s a b) := link_on h1.wide hu h2 (h3 su ua ub rfl)
      exact ch_snoc (ih _ (ends_in h1.wide hu).1) K hb
theorem Cor.gok {first : Rect} {gs : List Gate} {r : Rect} {u : Option (Int × Int × Int)} (h : Cor first gs r u) : ∀ g ∈ gs, GOk g := by
  induction h with
  | nil _ => intro g hg; cases hg
  | snoc h1 h2 h3 h4 h5 h6 ih =>
    intro g hg
    rcases List.mem_append.mp hg with hg | hg
    · exact ih g hg
    · rw [List.mem_singleton.mp hg]
      exact gok_on h2
theorem Cor.before {first : Rect} {gs : List Gate} {r : Rect} {u : Option (Int × Int × Int)} (h : Cor first gs r u) : ∀ s, InR first s → Before s gs := by
  induction h with
  | nil _ => exact fun _ _ => trivial
  | snoc h1 h2 h3 h4 h5 h6 ih =>
    intro s hs
    rcases h1.last with ⟨rfl, _, rfl⟩ | ⟨gs', su, ua, ub, rfl, rfl, hu⟩
    · exact before_on h2 hs
    · have := ih s hs
      cases gs' with
      | nil => exact this
      | cons x y => exact this
/-- the first gate's ends lie in the first rectangle, the last one's in the last -/
theorem Cor.first_in {first : Rect} {gs : List Gate} {r : Rect} {u : Option (Int × Int × Int)} (h : Cor first gs r u) : ∀ g gr, gs = g :: gr → InR first g.1 ∧ InR first g.2 := by
  induction h with
  | nil _ => intro g gr q; cases q
  | snoc h1 h2 h3 h4 h5 h6 ih =>
    intro g gr q
    rcases h1.last with ⟨rfl, _, rfl⟩ | ⟨gs', su, ua, ub, rfl, rfl, hu⟩
    · cases q
      exact ends_in h1.wide h2
    · cases gs' with
      | nil => cases q; exact ih _ [] rfl
      | cons x y => cases q; exact ih _ _ rfl
theorem Cor.last_in {first : Rect} {gs : List Gate} {r : Rect} {u : Option (Int × Int × Int)} (h : Cor first gs r u) : ∀ g gr, gs = gr ++ [g] → InR r g.1 ∧ InR r g.2 := by
  intro g gr q
  rcases h.last with ⟨rfl, _, _⟩ | ⟨gs', su, ua, ub, rfl, rfl, hu⟩
  · simp at q
  · obtain ⟨_, e⟩ := List.append_inj' q rfl
    cases e
    obtain ⟨h1, h2⟩ := ends_in h.wide hu
    exact ⟨h2, h1⟩
end FP
namespace FW
open PySem PySem.Spec PyProof.Rows L2 FP
/-! ### the text by places -/
def top (i : Nat) : Stmt := PySem.Challenge.pw_footpath_k36_whole_no_string_is_shorter.main.body.getD i (.Pass ⟨0, 0, 0, 0⟩)
abbrev sCross : Stmt := top 1
abbrev sDist : Stmt := top 2
abbrev sOn : Stmt := top 3
abbrev sNear : Stmt := top 4
abbrev sInit : Stmt := inClass (top 5) 0
abbrev sMiss : Stmt := inClass (top 5) 1
abbrev sNarr : Stmt := inClass (top 5) 2
abbrev sNb : Stmt := top 6
abbrev sStr : Stmt := top 7
abbrev sWs : Stmt := top 8
abbrev sTaut : Stmt := top 9
abbrev sRoot : Stmt := top 10
abbrev sLb : Stmt := top 11
abbrev sState : Stmt := top 13
abbrev sDraw : Stmt := top 14
abbrev sPick : Stmt := top 15
abbrev sSide : Stmt := top 16
abbrev sNext : Stmt := top 17
abbrev sPoint : Stmt := top 18
abbrev sCorr : Stmt := top 19
abbrev sLroot : Stmt := top 20
abbrev sLlen : Stmt := top 21
abbrev sLon : Stmt := top 22
abbrev sStrs : Stmt := top 23
abbrev sLaw : Stmt := top 24

abbrev Fg := PySem.W.Frag
abbrev Ex := Evl.Ex
/-! ### a def that stands behind the top, kept to its promise -/
def Own (P : Program) (w : World) (K : Fg) (mg : Str → Option Value) (base : Heap) (x : Str) (ps : List Str) (k : Nat) (sp : Sp) : Prop :=
  ∃ (f : Addr) (fd : FuncData), FnOk P w K mg base CX0 k f fd ps sp ∧ mg x = some (.ref f) ∧ PySem.W.keepIn K (.ref f) = true ∧ Binds K fd ps []
theorem Own.mono {P : Program} {w : World} {K : Fg} {mg : Str → Option Value} {base : Heap} {x : Str} {ps : List Str} {j k : Nat} {sp : Sp} (o : Own P w K mg base x ps j sp) (h : j ≤ k) : Own P w K mg base x ps k sp := by
  obtain ⟨f, fd, G, m, q, b⟩ := o
  exact ⟨f, fd, G.mono h, m, q, b⟩
theorem pe_own {X : Cx} {x : Str} {ps : List Str} {k : Nat} {sp : Sp} {p pos : Pos} {e : Expr} {es : List Expr} {t : TA} (O : Own X.prog X.w X.K X.mg X.base x ps k sp) (hr : Room k X.A) (hg : Gl X x) (ha : PA X (e :: es) t)
    (hdb : (x == ("__debug__" : Str)) = false := by decide) (he : starEach (e :: es) X.env = (false, eval e X.env) :: starEach es X.env := by rfl) (hpl : (backTo pos (starEach es X.env)).any (·.1) = false := by rfl) :
    PE X (.Call (.Name x p) (e :: es) [] pos) (tCall sp [] E0 t) := by
  obtain ⟨f, fd, G, m, q, b⟩ := O
  exact pe_call G hr hg m q b .nil pass0 ha hdb he hpl
/-! ### points, gates -/
section
variable (K : Fg)
def PtA (H : Hp) (v : V) (p : Pt) : Prop := ∃ a, v = .ref a ∧ SqT K H a [.int p.1, .int p.2]
def GateA (H : Hp) (v : V) (g : Gate) : Prop := ∃ a l r, v = .ref a ∧ SqT K H a [l, r] ∧ PtA K H l g.1 ∧ PtA K H r g.2
/-- the items of a list stand for data -/
inductive AllA {α : Type} (R : V → α → Prop) : List V → List α → Prop
  | nil : AllA R [] []
  | cons {v : V} {x : α} {vs : List V} {xs : List α} : R v x → AllA R vs xs → AllA R (v :: vs) (x :: xs)
end
/-- small coordinates -/
def Sm (p : Pt) : Prop := -1000000 ≤ p.1 ∧ p.1 ≤ 1000000 ∧ -1000000 ≤ p.2 ∧ p.2 ≤ 1000000
def SmG (g : Gate) : Prop := Sm g.1 ∧ Sm g.2
section
variable {K : Fg} {H H' : Hp} {v : V}
theorem PtA.mono {p : Pt} (e : Ex H H') (h : PtA K H v p) : PtA K H' v p := by
  obtain ⟨a, r, s⟩ := h
  exact ⟨a, r, Evl.ex_t e s⟩
theorem GateA.mono {g : Gate} (e : Ex H H') (h : GateA K H v g) : GateA K H' v g := by
  obtain ⟨a, l, r, h1, s, h2, h3⟩ := h
  exact ⟨a, l, r, h1, Evl.ex_t e s, h2.mono e, h3.mono e⟩
theorem AllA.len {α : Type} {R : V → α → Prop} : ∀ {vs : List V} {xs : List α}, AllA R vs xs → vs.length = xs.length
  | _, _, .nil => rfl
  | _, _, .cons _ t => congrArg (· + 1) t.len
theorem AllA.imp {α : Type} {R S : V → α → Prop} (f : ∀ v x, R v x → S v x) : ∀ {vs : List V} {xs : List α}, AllA R vs xs → AllA S vs xs
  | _, _, .nil => .nil
  | _, _, .cons r t => .cons (f _ _ r) (t.imp f)
theorem AllA.get {α : Type} {R : V → α → Prop} : ∀ {vs : List V} {xs : List α} {i : Nat} {x : α}, AllA R vs xs → xs[i]? = some x → ∃ v, vs[i]? = some v ∧ R v x
  | _, _, _, _, .nil, h => by simp at h
  | _, _, 0, _, .cons r _, h => by
    simp at h
    subst h
    exact ⟨_, rfl, r⟩
  | _, _, i + 1, x, .cons _ t, h => by
    obtain ⟨v, e, r⟩ := t.get (i := i) (by simpa using h)
    exact ⟨v, by simpa using e, r⟩
theorem AllA.getV {α : Type} {R : V → α → Prop} : ∀ {vs : List V} {xs : List α} {i : Nat} {v : V}, AllA R vs xs → vs[i]? = some v → ∃ x, xs[i]? = some x ∧ R v x
  | _, _, _, _, .nil, h => by simp at h
  | _, _, 0, _, .cons r _, h => by
    simp at h
    subst h
    exact ⟨_, rfl, r⟩
  | _, _, i + 1, x, .cons _ t, h => by
    obtain ⟨v, e, r⟩ := t.getV (i := i) (by simpa using h)
    exact ⟨v, by simpa using e, r⟩
theorem AllA.app {α : Type} {R : V → α → Prop} : ∀ {vs us : List V} {xs ys : List α}, AllA R vs xs → AllA R us ys → AllA R (vs ++ us) (xs ++ ys)
  | _, _, _, _, .nil, h => h
  | _, _, _, _, .cons r t, h => .cons r (t.app h)
theorem AllA.one {α : Type} {R : V → α → Prop} {v : V} {x : α} (h : R v x) : AllA R [v] [x] := .cons h .nil
/-! ### reading by Ev -/
theorem ev_px {te : TE} {σ : L2.St} {p : Pt} (h : Evl.Ev te σ H v) (hp : PtA K H v p) : Evl.Ev (tOp (rIxT K) te (tC (.int 0))) σ H (.int p.1) := by
  obtain ⟨a, rfl, s⟩ := hp
  exact Evl.ev_op h Evl.ev_c (Evl.rv_ixT s (atI_nat (j := 0) rfl))
theorem ev_pz {te : TE} {σ : L2.St} {p : Pt} (h : Evl.Ev te σ H v) (hp : PtA K H v p) : Evl.Ev (tOp (rIxT K) te (tC (.int 1))) σ H (.int p.2) := by
  obtain ⟨a, rfl, s⟩ := hp
  exact Evl.ev_op h Evl.ev_c (Evl.rv_ixT s (atI_nat (j := 1) rfl))
theorem GateA.ends {g : Gate} (h : GateA K H v g) : ∃ l r, PtA K H l g.1 ∧ PtA K H r g.2 ∧
    (∀ te σ, Evl.Ev te σ H v → Evl.Ev (tOp (rIxT K) te (tC (.int 0))) σ H l) ∧ (∀ te σ, Evl.Ev te σ H v → Evl.Ev (tOp (rIxT K) te (tC (.int 1))) σ H r) := by
  obtain ⟨a, l, r, rfl, s, h1, h2⟩ := h
  exact ⟨l, r, h1, h2, fun te σ e => Evl.ev_op e Evl.ev_c (Evl.rv_ixT s (atI_nat (j := 0) rfl)), fun te σ e => Evl.ev_op e Evl.ev_c (Evl.rv_ixT s (atI_nat (j := 1) rfl))⟩
end
/-! ### promises of the small defs: values, nothing made -/
def spCross (K : Fg) : Sp := fun vs H Q _ => ∃ a b c p q r, vs = [a, b, c] ∧ PtA K H a p ∧ PtA K H b q ∧ PtA K H c r ∧ Sm p ∧ Sm q ∧ Sm r ∧ ∀ H', Ex H H' → Q (.int (cross p q r)) H'
def spDist (K : Fg) : Sp := fun vs H Q _ => ∃ a b p q, vs = [a, b] ∧ PtA K H a p ∧ PtA K H b q ∧ Sm p ∧ Sm q ∧ ∀ H', Ex H H' → Q (.int (dist p q)) H'
def spOn (K : Fg) : Sp := fun vs H Q _ => ∃ a b g p, vs = [a, b] ∧ GateA K H a g ∧ PtA K H b p ∧ SmG g ∧ Sm p ∧ ∀ H', Ex H H' → Q (.bl (onGate g p)) H'
def spNear (K : Fg) : Sp := fun vs H Q _ => ∃ a b g p, vs = [a, b] ∧ GateA K H a g ∧ PtA K H b p ∧ SmG g ∧ Sm p ∧ ∀ H' v, Ex H H' → PtA K H' v (nearer g p) → Q v H'
def spStr (K : Fg) : Sp := fun vs H Q _ => ∃ a b c p q r, vs = [a, b, c] ∧ PtA K H a p ∧ PtA K H b q ∧ PtA K H c r ∧ Sm p ∧ Sm q ∧ Sm r ∧ ∀ H', Ex H H' → Q (.bl (isStr p q r)) H'
theorem spv_cross {K : Fg} {H : Hp} {a b c : V} {p q r : Pt} (ha : PtA K H a p) (hb : PtA K H b q) (hc : PtA K H c r) (h1 : Sm p) (h2 : Sm q) (h3 : Sm r) : Evl.SpV (spCross K) [a, b, c] H (.int (cross p q r)) :=
  fun H1 e Q q' E => ⟨a, b, c, p, q, r, rfl, ha.mono e, hb.mono e, hc.mono e, h1, h2, h3, q'⟩
theorem spv_dist {K : Fg} {H : Hp} {a b : V} {p q : Pt} (ha : PtA K H a p) (hb : PtA K H b q) (h1 : Sm p) (h2 : Sm q) : Evl.SpV (spDist K) [a, b] H (.int (dist p q)) :=
  fun H1 e Q q' E => ⟨a, b, p, q, rfl, ha.mono e, hb.mono e, h1, h2, q'⟩
theorem spv_str {K : Fg} {H : Hp} {a b c : V} {p q r : Pt} (ha : PtA K H a p) (hb : PtA K H b q) (hc : PtA K H c r) (h1 : Sm p) (h2 : Sm q) (h3 : Sm r) : Evl.SpV (spStr K) [a, b, c] H (.bl (isStr p q r)) :=
  fun H1 e Q q' E => ⟨a, b, c, p, q, r, rfl, ha.mono e, hb.mono e, hc.mono e, h1, h2, h3, q'⟩
theorem spv_on {K : Fg} {H : Hp} {a b : V} {g : Gate} {p : Pt} (ha : GateA K H a g) (hb : PtA K H b p) (h1 : SmG g) (h2 : Sm p) : Evl.SpV (spOn K) [a, b] H (.bl (onGate g p)) :=
  fun H1 e Q q' E => ⟨a, b, g, p, rfl, ha.mono e, hb.mono e, h1, h2, q'⟩
/-- a product of small numbers -/
theorem cm {i j : Int} (h1 : -10000000000 ≤ i) (h2 : i ≤ 10000000000) : CMul i j := .inl ⟨by omega, by omega⟩
end FW
namespace FW
open PySem PySem.Spec PyProof.Rows L2 FP Evl
section
variable {P : Program} {w : World} {K : Fg} {mg : Str → Option Value} {base : Heap}
theorem scCross : FnScope ["a", "b", "c"] ["a", "b", "c"] (defScope sCross) := ⟨rfl, rfl, rfl, by decide +kernel, rfl, by decide +kernel, by decide +kernel⟩
theorem ok_cross {f : Addr} {fd : FuncData} (F : Fun K "cross" "cross" sCross f fd) : FnOk P w K mg base CX0 1 f fd ["a", "b", "c"] (spCross K) := by
  refine F.ok scCross (fun vs H Q E h => ?_) (fun cdv A outer s H vs Q E hr h => ?_)
  · obtain ⟨a, b, c, p, q, r, rfl, _⟩ := h
    rfl
  · obtain ⟨a, b, c, p, q, r, rfl, ha, hb, hc, s1, s2, s3, k⟩ := h
    unfold Sm at s1 s2 s3
    refine ⟨_, pss_one (ps_ret (pe_op op_sub
      (pe_op op_mul (pe_op op_sub (pe_ix ix_tup (pv 1) pe_int (fun _ _ => rfl)) (pe_ix ix_tup (pv 0) pe_int (fun _ _ => rfl))) (pe_op op_sub (pe_ix ix_tup (pv 2) pe_int (fun _ _ => rfl)) (pe_ix ix_tup (pv 0) pe_int (fun _ _ => rfl))))
      (pe_op op_mul (pe_op op_sub (pe_ix ix_tup (pv 1) pe_int (fun _ _ => rfl)) (pe_ix ix_tup (pv 0) pe_int (fun _ _ => rfl))) (pe_op op_sub (pe_ix ix_tup (pv 2) pe_int (fun _ _ => rfl)) (pe_ix ix_tup (pv 0) pe_int (fun _ _ => rfl)))))), ?_⟩
    exact s_ret (ev_op (ev_op (ev_op (ev_pz (ev_var rfl) hb) (ev_pz (ev_var rfl) ha) rv_I0) (ev_op (ev_px (ev_var rfl) hc) (ev_px (ev_var rfl) ha) rv_I0) (rv_I (cm (by omega) (by omega))))
      (ev_op (ev_op (ev_px (ev_var rfl) hb) (ev_px (ev_var rfl) ha) rv_I0) (ev_op (ev_pz (ev_var rfl) hc) (ev_pz (ev_var rfl) ha) rv_I0) (rv_I (cm (by omega) (by omega)))) rv_I0) k
theorem scDist : FnScope ["a", "b"] ["a", "b"] (defScope sDist) := ⟨rfl, rfl, rfl, by decide +kernel, rfl, by decide +kernel, by decide +kernel⟩
theorem ok_dist {f : Addr} {fd : FuncData} (F : Fun K "distance" "distance" sDist f fd) : FnOk P w K mg base CX0 1 f fd ["a", "b"] (spDist K) := by
  refine F.ok scDist (fun vs H Q E h => ?_) (fun cdv A outer s H vs Q E hr h => ?_)
  · obtain ⟨a, b, p, q, rfl, _⟩ := h
    rfl
  · obtain ⟨a, b, p, q, rfl, ha, hb, s1, s2, k⟩ := h
    unfold Sm at s1 s2
    refine ⟨_, pss_one (ps_ret (pe_op op_add
      (pe_op op_mul (pe_op op_sub (pe_ix ix_tup (pv 0) pe_int (fun _ _ => rfl)) (pe_ix ix_tup (pv 1) pe_int (fun _ _ => rfl))) (pe_op op_sub (pe_ix ix_tup (pv 0) pe_int (fun _ _ => rfl)) (pe_ix ix_tup (pv 1) pe_int (fun _ _ => rfl))))
      (pe_op op_mul (pe_op op_sub (pe_ix ix_tup (pv 0) pe_int (fun _ _ => rfl)) (pe_ix ix_tup (pv 1) pe_int (fun _ _ => rfl))) (pe_op op_sub (pe_ix ix_tup (pv 0) pe_int (fun _ _ => rfl)) (pe_ix ix_tup (pv 1) pe_int (fun _ _ => rfl)))))), ?_⟩
    exact s_ret (ev_op (ev_op (ev_op (ev_px (ev_var rfl) ha) (ev_px (ev_var rfl) hb) rv_I0) (ev_op (ev_px (ev_var rfl) ha) (ev_px (ev_var rfl) hb) rv_I0) (rv_I (cm (by omega) (by omega))))
      (ev_op (ev_op (ev_pz (ev_var rfl) ha) (ev_pz (ev_var rfl) hb) rv_I0) (ev_op (ev_pz (ev_var rfl) ha) (ev_pz (ev_var rfl) hb) rv_I0) (rv_I (cm (by omega) (by omega)))) rv_I0) k
theorem scOn : FnScope ["ends", "point"] ["ends", "point"] (defScope sOn) := ⟨rfl, rfl, rfl, by decide +kernel, rfl, by decide +kernel, by decide +kernel⟩
theorem ok_on {f : Addr} {fd : FuncData} (F : Fun K "on_gate" "on_gate" sOn f fd) (OC : Own P w K mg base "cross" ["a", "b", "c"] 1 (spCross K)) (OD : Own P w K mg base "distance" ["a", "b"] 1 (spDist K)) :
    FnOk P w K mg base CX0 2 f fd ["ends", "point"] (spOn K) := by
  refine F.ok scOn (fun vs H Q E h => ?_) (fun cdv A outer s H vs Q E hr h => ?_)
  · obtain ⟨a, b, g, p, rfl, _⟩ := h
    rfl
  · obtain ⟨a, b, g, p, rfl, ha, hb, ⟨s1, s2⟩, s3, k⟩ := h
    obtain ⟨l, r, hl, hr', e0, e1⟩ := ha.ends
    refine ⟨_, pss_cons (ps_if (pt_cmpR op_ne (pe_own OC hr (by rfl) (pa_cons (pe_ix ix_tup (pv 0) pe_int (fun _ _ => rfl)) (pa_cons (pe_ix ix_tup (pv 0) pe_int (fun _ _ => rfl)) (pa_cons (pv 1) pa_nil)))) pe_int (nomark _)) (pss_one (ps_ret pe_bl)) pss_nil)
      (pss_one (ps_ret (pe_cmpR op_le (pe_op op_add (pe_own OD hr (by rfl) (pa_cons (pe_ix ix_tup (pv 0) pe_int (fun _ _ => rfl)) (pa_cons (pv 1) pa_nil))) (pe_own OD hr (by rfl) (pa_cons (pv 1) (pa_cons (pe_ix ix_tup (pv 0) pe_int (fun _ _ => rfl)) pa_nil))))
        (pe_own OD hr (by rfl) (pa_cons (pe_ix ix_tup (pv 0) pe_int (fun _ _ => rfl)) (pa_cons (pe_ix ix_tup (pv 0) pe_int (fun _ _ => rfl)) pa_nil))) (nomark _)))), ?_⟩
    refine q_when (et_test (ev_op (ev_call (ea_cons (e0 _ _ (ev_var rfl)) (ea_cons (e1 _ _ (ev_var rfl)) (ea_cons (ev_var rfl) ea_nil))) (spv_cross hl hr' hb s1 s2 s3)) ev_c (rv_ne rfl))) (fun hb' H1 x1 => ?_) (fun hb' H1 x1 => ?_)
    · refine s_ret ev_c fun H2 x2 => ?_
      have e : onGate g p = false := by
        unfold onGate
        rw [if_pos (by simpa using hb')]
      rw [← e]
      exact k _ (x1.trans x2)
    · have e : onGate g p = decide (dist g.1 p + dist p g.2 ≤ dist g.1 g.2) := by
        unfold onGate
        rw [if_neg (by simpa using hb')]
      rw [e] at k
      exact s_ret ((ev_op (ev_op (ev_call (ea_cons (e0 _ _ (ev_var rfl)) (ea_cons (ev_var rfl) ea_nil)) (spv_dist hl hb s1 s3)) (ev_call (ea_cons (ev_var rfl) (ea_cons (e1 _ _ (ev_var rfl)) ea_nil)) (spv_dist hb hr' s3 s2)) rv_I0)
        (ev_call (ea_cons (e0 _ _ (ev_var rfl)) (ea_cons (e1 _ _ (ev_var rfl)) ea_nil)) (spv_dist hl hr' s1 s2)) rv_I0).mono x1) fun H2 x2 => k _ (x1.trans x2)
theorem scNear : FnScope ["ends", "point"] ["ends", "point"] (defScope sNear) := ⟨rfl, rfl, rfl, by decide +kernel, rfl, by decide +kernel, by decide +kernel⟩
theorem ok_near {f : Addr} {fd : FuncData} (F : Fun K "nearer" "nearer" sNear f fd) (OD : Own P w K mg base "distance" ["a", "b"] 1 (spDist K)) : FnOk P w K mg base CX0 2 f fd ["ends", "point"] (spNear K) := by
  refine F.ok scNear (fun vs H Q E h => ?_) (fun cdv A outer s H vs Q E hr h => ?_)
  · obtain ⟨a, b, g, p, rfl, _⟩ := h
    rfl
  · obtain ⟨a, b, g, p, rfl, ha, hb, ⟨s1, s2⟩, s3, k⟩ := h
    obtain ⟨l, r, hl, hr', e0, e1⟩ := ha.ends
    refine ⟨_, pss_cons (ps_if (pt_cmpR op_le (pe_own OD hr (by rfl) (pa_cons (pe_ix ix_tup (pv 0) pe_int (fun _ _ => rfl)) (pa_cons (pv 1) pa_nil))) (pe_own OD hr (by rfl) (pa_cons (pe_ix ix_tup (pv 0) pe_int (fun _ _ => rfl)) (pa_cons (pv 1) pa_nil))) (nomark _))
      (pss_one (ps_ret (pe_ix ix_tup (pv 0) pe_int (fun _ _ => rfl)))) pss_nil) (pss_one (ps_ret (pe_ix ix_tup (pv 0) pe_int (fun _ _ => rfl)))), ?_⟩
    refine q_when (et_test (ev_op (ev_call (ea_cons (e0 _ _ (ev_var rfl)) (ea_cons (ev_var rfl) ea_nil)) (spv_dist hl hb s1 s3)) (ev_call (ea_cons (e1 _ _ (ev_var rfl)) (ea_cons (ev_var rfl) ea_nil)) (spv_dist hr' hb s2 s3)) rv_I0)) (fun hb' H1 x1 => ?_) (fun hb' H1 x1 => ?_)
    · have e : nearer g p = g.1 := by
        unfold nearer
        rw [if_pos (by simpa using hb')]
      exact s_ret ((e0 _ _ (ev_var rfl)).mono x1) fun H2 x2 => k _ _ (x1.trans x2) (by rw [e]; exact hl.mono (x1.trans x2))
    · have e : nearer g p = g.2 := by
        unfold nearer
        rw [if_neg (by simpa using hb')]
      exact s_ret ((e1 _ _ (ev_var rfl)).mono x1) fun H2 x2 => k _ _ (x1.trans x2) (by rw [e]; exact hr'.mono (x1.trans x2))
theorem scStr : FnScope ["a", "b", "c"] ["a", "b", "c"] (defScope sStr) := ⟨rfl, rfl, rfl, by decide +kernel, rfl, by decide +kernel, by decide +kernel⟩
theorem ok_str {f : Addr} {fd : FuncData} (F : Fun K "is_straight" "is_straight" sStr f fd) (OC : Own P w K mg base "cross" ["a", "b", "c"] 1 (spCross K)) : FnOk P w K mg base CX0 2 f fd ["a", "b", "c"] (spStr K) := by
  refine F.ok scStr (fun vs H Q E h => ?_) (fun cdv A outer s H vs Q E hr h => ?_)
  · obtain ⟨a, b, c, p, q, r, rfl, _⟩ := h
    rfl
  · obtain ⟨a, b, c, p, q, r, rfl, ha, hb, hc, s1, s2, s3, k⟩ := h
    have S1 := s1; have S2 := s2; have S3 := s3
    unfold Sm at s1 s2 s3
    refine ⟨_, pss_cons (ps_if (pt_cmpR op_ne (pe_own OC hr (by rfl) (pa_cons (pv 0) (pa_cons (pv 1) (pa_cons (pv 2) pa_nil)))) pe_int (nomark _)) (pss_one (ps_ret pe_bl)) pss_nil)
      (pss_one (ps_ret (pe_cmpR op_gt (pe_op op_add
      (pe_op op_mul (pe_op op_sub (pe_ix ix_tup (pv 1) pe_int (fun _ _ => rfl)) (pe_ix ix_tup (pv 0) pe_int (fun _ _ => rfl))) (pe_op op_sub (pe_ix ix_tup (pv 2) pe_int (fun _ _ => rfl)) (pe_ix ix_tup (pv 1) pe_int (fun _ _ => rfl))))
      (pe_op op_mul (pe_op op_sub (pe_ix ix_tup (pv 1) pe_int (fun _ _ => rfl)) (pe_ix ix_tup (pv 0) pe_int (fun _ _ => rfl))) (pe_op op_sub (pe_ix ix_tup (pv 2) pe_int (fun _ _ => rfl)) (pe_ix ix_tup (pv 1) pe_int (fun _ _ => rfl))))) pe_int (nomark _)))), ?_⟩
    refine q_when (et_test (ev_op (ev_call (ea_cons (ev_var rfl) (ea_cons (ev_var rfl) (ea_cons (ev_var rfl) ea_nil))) (spv_cross ha hb hc S1 S2 S3)) ev_c (rv_ne rfl))) (fun hb' H1 x1 => ?_) (fun hb' H1 x1 => ?_)
    · refine s_ret ev_c fun H2 x2 => ?_
      have e : isStr p q r = false := by
        unfold isStr
        rw [if_pos (by simpa using hb')]
      rw [← e]
      exact k _ (x1.trans x2)
    · have e : isStr p q r = decide (0 < (q.1 - p.1) * (r.1 - q.1) + (q.2 - p.2) * (r.2 - q.2)) := by
        unfold isStr
        rw [if_neg (by simpa using hb')]
      rw [e] at k
      exact s_ret ((ev_op (ev_op (ev_op (ev_op (ev_px (ev_var rfl) hb) (ev_px (ev_var rfl) ha) rv_I0) (ev_op (ev_px (ev_var rfl) hc) (ev_px (ev_var rfl) hb) rv_I0) (rv_I (cm (by omega) (by omega))))
        (ev_op (ev_op (ev_pz (ev_var rfl) hb) (ev_pz (ev_var rfl) ha) rv_I0) (ev_op (ev_pz (ev_var rfl) hc) (ev_pz (ev_var rfl) hb) rv_I0) (rv_I (cm (by omega) (by omega)))) rv_I0) ev_c rv_I0).mono x1) fun H2 x2 => k _ (x1.trans x2)
end
end FW
namespace FW
open PySem PySem.Spec PyProof.Rows L2 FP Evl
/-! ### arithmetic of the roots -/
theorem lt_sq {a b : Int} (ha : 0 ≤ a) (hb : 0 ≤ b) (h : a * a < b * b) : a < b := lt_of_sq hb h
theorem root_turn {n low high : Int} (h0 : 0 ≤ low) (h1 : low * low ≤ n) (h2 : n < high * high) (h3 : high - low > 1) :
    low < (low + high) / 2 ∧ (low + high) / 2 < high := by omega
theorem high_small {n high : Int} (h0 : 1 ≤ high) (h1 : high * high ≤ 4 * n + 4) (hn : n < 2 ^ 120) : high < 2 ^ 62 := by
  apply Decidable.byContradiction
  intro hh
  have := Int.mul_le_mul (show (2 : Int) ^ 62 ≤ high by omega) (show (2 : Int) ^ 62 ≤ high by omega) (by decide) (by omega)
  omega
theorem imul_any {X : Cx} : PIp X .Mult (fun x y H Q => ∃ i j, x = .int i ∧ y = .int j ∧ CMul i j ∧ Q (.int (i * j)) H) := by
  intro pins s σ H x y v u Q I r1 r2 h
  obtain ⟨i, j, e1, e2, hc, q⟩ := h
  exact iop_mul pins s σ H x y v u Q I r1 r2 ⟨i, j, e1, e2, hc, q⟩
def spRoot : Sp := fun vs H Q _ => ∃ n : Int, vs = [.int n] ∧ 0 ≤ n ∧ n < 2 ^ 120 ∧ ∀ H', Ex H H' → Q (.int (rt n)) H'
theorem spv_root {H : Hp} {n : Int} (h0 : 0 ≤ n) (h1 : n < 2 ^ 120) : SpV spRoot [.int n] H (.int (rt n)) := fun H1 e Q q E => ⟨n, rfl, h0, h1, q⟩
theorem bin_done {n low high : Int} (h0 : 0 ≤ low) (h1 : low * low ≤ n) (h2 : n < high * high) (h3 : low < high) (h4 : ¬ high - low > 1) : rt n = low := by
  have e : high = low + 1 := by omega
  subst e
  exact rt_uniq h0 h1 h2
section
variable {P : Program} {w : World} {K : Fg} {mg : Str → Option Value} {base : Heap}
theorem scRoot : FnScope ["number", "low", "high", "middle"] ["number"] (defScope sRoot) := ⟨rfl, rfl, rfl, by decide +kernel, rfl, by decide +kernel, by decide +kernel⟩
theorem ok_root {f : Addr} {fd : FuncData} (F : Fun K "root" "root" sRoot f fd) : FnOk P w K mg base CX0 1 f fd ["number"] spRoot := by
  refine F.ok scRoot (fun vs H Q E h => ?_) (fun cdv A outer s H vs Q E hr h => ?_)
  · obtain ⟨n, rfl, _⟩ := h
    rfl
  · obtain ⟨n, rfl, h0, h1, k⟩ := h
    refine ⟨_, pss_cons (ps_set (i := 1) scRoot.nd rfl (Or.inl rfl) pe_int) (pss_cons (ps_set (i := 2) scRoot.nd rfl (Or.inl rfl) pe_int)
      (pss_cons (ps_while PassesOwn.never (pt_cmpR op_le (pe_op op_mul (pv 2) (pv 2)) (pv 0) (nomark _)) (pss_one (ps_aug (i := 2) scRoot.nd rfl (.inl rfl) pe_int imul_any)))
      (pss_cons (ps_while PassesOwn.never (pt_cmpR op_gt (pe_op op_sub (pv 2) (pv 1)) pe_int (nomark _))
        (pss_cons (ps_set (i := 3) scRoot.nd rfl (Or.inl rfl) (pe_op op_fdiv (pe_op op_add (pv 1) (pv 2)) pe_int))
        (pss_one (ps_if (pt_cmpR op_le (pe_op op_mul (pv 3) (pv 3)) (pv 0) (nomark _)) (pss_one (ps_set (i := 1) scRoot.nd rfl (Or.inl rfl) (pv 3))) (pss_one (ps_set (i := 2) scRoot.nd rfl (Or.inl rfl) (pv 3)))))))
      (pss_one (ps_ret (pv 1)))))), ?_⟩
    refine q_asg ev_c fun H1 x1 => q_asg ev_c fun H2 x2 => ?_
    refine q_while (fun m σ H' => ∃ hi : Int, σ = [some (.int n), some (.int 0), some (.int hi), none] ∧ Ex H H' ∧ 1 ≤ hi ∧ hi * hi ≤ 4 * n + 4 ∧ m = (n + 1 - hi).toNat) _ ⟨1, rfl, x1.trans x2, by omega, by omega, rfl⟩ (fun m σ H' hW => ?_)
    obtain ⟨hi, rfl, xH, g1, g2, rfl⟩ := hW
    have hs := high_small g1 g2 h1
    refine ⟨_, et_test (ev_op (ev_op (ev_var rfl) (ev_var rfl) (rv_I (.inl ⟨by omega, by omega⟩))) (ev_var rfl) rv_I0), fun hb H3 x3 => ?_, fun hb H3 x3 => ?_⟩
    · have hle : hi * hi ≤ n := by simpa using hb
      have hmul : hi ≤ hi * hi := by
        have := Int.mul_le_mul_of_nonneg_left g1 (show 0 ≤ hi by omega)
        omega
      refine ⟨fun σ' H' => σ' = [some (.int n), some (.int 0), some (.int (hi * 2)), none] ∧ Ex H H', fun σ' H'' hN => ?_, ?_⟩
      · obtain ⟨e, x⟩ := hN
        refine ⟨(n + 1 - hi * 2).toNat, by omega, hi * 2, e, x, by omega, ?_, rfl⟩
        have e4 : hi * 2 * (hi * 2) = 4 * (hi * hi) := by grind
        omega
      · exact ⟨.int hi, rfl, hi, 2, rfl, rfl, .inr ⟨by decide, by decide⟩, rfl, xH.trans x3⟩
    · have hgt : n < hi * hi := by simpa using hb
      refine q_while (fun m σ H' => ∃ (lo h2 : Int) (v : Option V), σ = [some (.int n), some (.int lo), some (.int h2), v] ∧ Ex H H' ∧ 0 ≤ lo ∧ lo < h2 ∧ lo * lo ≤ n ∧ n < h2 * h2 ∧ h2 ≤ hi ∧ m = (h2 - lo).toNat) _
        ⟨0, hi, none, rfl, xH.trans x3, Int.le_refl _, by omega, by omega, hgt, Int.le_refl _, rfl⟩ (fun m σ H4 hW => ?_)
      obtain ⟨lo, h2, v, rfl, xH4, b0, b1, b2, b3, b4, rfl⟩ := hW
      refine ⟨_, et_test (ev_op (ev_op (ev_var rfl) (ev_var rfl) rv_I0) ev_c rv_I0), fun hb2 H5 x5 => ?_, fun hb2 H5 x5 => ?_⟩
      · have hb3 : h2 - lo > 1 := by simpa using hb2
        obtain ⟨t1, t2⟩ := root_turn b0 b2 b3 hb3
        refine ⟨fun σ' H' => ∃ (lo' h2' : Int) (v : Option V), σ' = [some (.int n), some (.int lo'), some (.int h2'), v] ∧ Ex H H' ∧ 0 ≤ lo' ∧ lo' < h2' ∧ lo' * lo' ≤ n ∧ n < h2' * h2' ∧ h2' ≤ hi ∧ h2' - lo' < h2 - lo, fun σ' H' hN => ?_, ?_⟩
        · obtain ⟨lo', h2', v', e, x, c0, c1, c2, c3, c4, c5⟩ := hN
          exact ⟨_, by omega, lo', h2', v', e, x, c0, c1, c2, c3, c4, rfl⟩
        · refine q_asg (ev_op (ev_op (ev_var rfl) (ev_var rfl) rv_I0) ev_c (rv_I ⟨by decide, by decide⟩)) fun H6 x6 => ?_
          refine s_if (et_test (ev_op (ev_op (ev_var rfl) (ev_var rfl) (rv_I (.inl ⟨by omega, by omega⟩))) (ev_var rfl) rv_I0)) (fun hb4 H7 x7 => ?_) (fun hb4 H7 x7 => ?_)
          · have hb5 : (lo + h2) / 2 * ((lo + h2) / 2) ≤ n := by simpa using hb4
            exact s_asg (ev_var rfl) fun H8 x8 => ⟨(lo + h2) / 2, h2, _, rfl, ((((xH4.trans x5).trans x6).trans x7).trans x8), by omega, t2, hb5, b3, b4, by omega⟩
          · have hb5 : n < (lo + h2) / 2 * ((lo + h2) / 2) := by simpa using hb4
            exact s_asg (ev_var rfl) fun H8 x8 => ⟨lo, (lo + h2) / 2, _, rfl, ((((xH4.trans x5).trans x6).trans x7).trans x8), b0, t1, b2, hb5, by omega, by omega⟩
      · have hb3 : ¬ h2 - lo > 1 := by simpa using hb2
        have e := bin_done b0 b2 b3 b1 hb3
        rw [e] at k
        exact s_ret (ev_var rfl) fun H6 x6 => k _ ((xH4.trans x5).trans x6)
theorem scLroot : FnScope ["_law_number", "_law_low", "_law_high", "_law_middle"] ["_law_number"] (defScope sLroot) := ⟨rfl, rfl, rfl, by decide +kernel, rfl, by decide +kernel, by decide +kernel⟩
theorem ok_lroot {f : Addr} {fd : FuncData} (F : Fun K "_law_root" "_law_root" sLroot f fd) : FnOk P w K mg base CX0 1 f fd ["_law_number"] spRoot := by
  refine F.ok scLroot (fun vs H Q E h => ?_) (fun cdv A outer s H vs Q E hr h => ?_)
  · obtain ⟨n, rfl, _⟩ := h
    rfl
  · obtain ⟨n, rfl, h0, h1, k⟩ := h
    refine ⟨_, pss_cons (ps_set (i := 1) scLroot.nd rfl (Or.inl rfl) pe_int) (pss_cons (ps_set (i := 2) scLroot.nd rfl (Or.inl rfl) (pe_op op_add (pv 0) pe_int))
      (pss_cons (ps_while PassesOwn.never (pt_cmpR op_gt (pe_op op_sub (pv 2) (pv 1)) pe_int (nomark _))
        (pss_cons (ps_set (i := 3) scLroot.nd rfl (Or.inl rfl) (pe_op op_fdiv (pe_op op_add (pv 1) (pv 2)) pe_int))
        (pss_one (ps_if (pt_cmpR op_le (pe_op op_mulW (pv 3) (pv 3)) (pv 0) (nomark _)) (pss_one (ps_set (i := 1) scLroot.nd rfl (Or.inl rfl) (pv 3))) (pss_one (ps_set (i := 2) scLroot.nd rfl (Or.inl rfl) (pv 3)))))))
      (pss_one (ps_ret (pv 1))))), ?_⟩
    refine q_asg ev_c fun H1 x1 => q_asg (ev_op (ev_var rfl) ev_c rv_I0) fun H2 x2 => ?_
    have hgt : n < (n + 1) * (n + 1) := by
      have : (n + 1) * (n + 1) = n * n + 2 * n + 1 := by grind
      have := Int.mul_nonneg h0 h0
      omega
    refine q_while (fun m σ H' => ∃ (lo h2 : Int) (v : Option V), σ = [some (.int n), some (.int lo), some (.int h2), v] ∧ Ex H H' ∧ 0 ≤ lo ∧ lo < h2 ∧ lo * lo ≤ n ∧ n < h2 * h2 ∧ h2 ≤ n + 1 ∧ m = (h2 - lo).toNat) _
      ⟨0, n + 1, none, rfl, x1.trans x2, Int.le_refl _, by omega, by omega, hgt, Int.le_refl _, rfl⟩ (fun m σ H4 hW => ?_)
    obtain ⟨lo, h2, v, rfl, xH4, b0, b1, b2, b3, b4, rfl⟩ := hW
    refine ⟨_, et_test (ev_op (ev_op (ev_var rfl) (ev_var rfl) rv_I0) ev_c rv_I0), fun hb2 H5 x5 => ?_, fun hb2 H5 x5 => ?_⟩
    · have hb3 : h2 - lo > 1 := by simpa using hb2
      obtain ⟨t1, t2⟩ := root_turn b0 b2 b3 hb3
      refine ⟨fun σ' H' => ∃ (lo' h2' : Int) (v : Option V), σ' = [some (.int n), some (.int lo'), some (.int h2'), v] ∧ Ex H H' ∧ 0 ≤ lo' ∧ lo' < h2' ∧ lo' * lo' ≤ n ∧ n < h2' * h2' ∧ h2' ≤ n + 1 ∧ h2' - lo' < h2 - lo, fun σ' H' hN => ?_, ?_⟩
      · obtain ⟨lo', h2', v', e, x, c0, c1, c2, c3, c4, c5⟩ := hN
        exact ⟨_, by omega, lo', h2', v', e, x, c0, c1, c2, c3, c4, rfl⟩
      · refine q_asg (ev_op (ev_op (ev_var rfl) (ev_var rfl) rv_I0) ev_c (rv_I ⟨by decide, by decide⟩)) fun H6 x6 => ?_
        have hw : ((lo + h2) / 2).natAbs < 2 ^ 128 := by
          have : (2 : Int) ^ 120 = 1329227995784915872903807060280344576 := by decide
          have : (2 : Nat) ^ 128 = 340282366920938463463374607431768211456 := by decide
          omega
        refine s_if (et_test (ev_op (ev_op (ev_var rfl) (ev_var rfl) (rv_I (wide_mul hw hw (by decide) (by decide) (by decide)))) (ev_var rfl) rv_I0)) (fun hb4 H7 x7 => ?_) (fun hb4 H7 x7 => ?_)
        · have hb5 : (lo + h2) / 2 * ((lo + h2) / 2) ≤ n := by simpa using hb4
          exact s_asg (ev_var rfl) fun H8 x8 => ⟨(lo + h2) / 2, h2, _, rfl, ((((xH4.trans x5).trans x6).trans x7).trans x8), by omega, t2, hb5, b3, b4, by omega⟩
        · have hb5 : n < (lo + h2) / 2 * ((lo + h2) / 2) := by simpa using hb4
          exact s_asg (ev_var rfl) fun H8 x8 => ⟨lo, (lo + h2) / 2, _, rfl, ((((xH4.trans x5).trans x6).trans x7).trans x8), b0, t1, b2, hb5, by omega, by omega⟩
    · have hb3 : ¬ h2 - lo > 1 := by simpa using hb2
      have e := bin_done b0 b2 b3 b1 hb3
      rw [e] at k
      exact s_ret (ev_var rfl) fun H6 x6 => k _ ((xH4.trans x5).trans x6)
end
end FW
namespace FW
open PySem PySem.Spec PyProof.Rows L2 FP Evl
theorem at1 {xs : List V} {i : Nat} {v : V} (h : xs[i + 1]? = some v) : atI xs ((i : Int) + 1) = some v := atI_nat (j := i + 1) h
theorem at0 {xs : List V} {i : Nat} {v : V} (h : xs[i]? = some v) : atI xs (i : Int) = some v := atI_nat (j := i) h
/-- a string: a list of points -/
structure LstP (K : Fg) (H : Hp) (a : Addr) (pts : List Pt) : Prop where
  at_ : ∃ xs, SqL K H a xs ∧ AllA (PtA K H) xs pts
  sm : ∀ p ∈ pts, Sm p
theorem LstP.mono {K : Fg} {H H' : Hp} {a : Addr} {pts : List Pt} (e : Ex H H') (h : LstP K H a pts) : LstP K H' a pts := by
  obtain ⟨⟨xs, s, r⟩, m⟩ := h
  exact ⟨⟨xs, ex_l e s, r.imp fun _ _ z => z.mono e⟩, m⟩
def spLlen (K : Fg) : Sp := fun vs H Q _ => ∃ (a : Addr) (pts : List Pt) (S : Int), vs = [.ref a, .int S] ∧ LstP K H a pts ∧ pts ≠ [] ∧ pts.length ≤ 1000 ∧ 0 ≤ S ∧ S ≤ 2000000000 ∧
  ∀ p H', H p = none → Ex H H' → H' p = some (.lst [.int (sumP (lw S) pts), .bl (allP (exq S) pts)]) → Q (.ref p) H'
theorem spl_llen {K : Fg} {H : Hp} {a : Addr} {pts : List Pt} {S : Int} (h : LstP K H a pts) (h0 : pts ≠ []) (h1 : pts.length ≤ 1000) (h2 : 0 ≤ S) (h3 : S ≤ 2000000000) : SpL (spLlen K) [.ref a, .int S] H [.int (sumP (lw S) pts), .bl (allP (exq S) pts)] :=
  fun H1 e Q q E => ⟨a, pts, S, rfl, h.mono e, h0, h1, h2, h3, q⟩
def spLb (K : Fg) : Sp := fun vs H Q _ => ∃ (a : Addr) (pts : List Pt) (S : Int), vs = [.ref a, .int S] ∧ LstP K H a pts ∧ pts ≠ [] ∧ pts.length ≤ 1000 ∧ 0 ≤ S ∧ S ≤ 1000000 ∧
  ∀ p H', H p = none → Ex H H' → H' p = some (.tup [.int (sumP (lw S) pts), .int (sumP (hw S) pts)]) → Q (.ref p) H'
theorem two_pts {pts : List Pt} {i : Nat} (h0 : pts ≠ []) (hi : (i : Int) < (pts.length : Int) - 1) : ∃ p q, pts[i]? = some p ∧ pts[i + 1]? = some q ∧ p ∈ pts ∧ q ∈ pts :=
  ⟨pts[i]'(by omega), pts[i + 1]'(by omega), List.getElem?_eq_getElem _, List.getElem?_eq_getElem _, List.getElem_mem _, List.getElem_mem _⟩
theorem len_pos {α : Type} {l : List α} (h : l ≠ []) : 1 ≤ l.length := by
  cases l with
  | nil => exact absurd rfl h
  | cons a r => simp
theorem take_all {α : Type} {l : List α} (h : l ≠ []) : l.take (((l.length : Int) - 1).toNat + 1) = l := by
  have := len_pos h
  exact List.take_of_length_le (by omega)
section
variable {P : Program} {w : World} {K : Fg} {mg : Str → Option Value} {base : Heap}
theorem scLlen : FnScope ["_law_points", "_law_scale", "_law_low", "_law_exact", "_law_k", "_law_a", "_law_b", "_law_part"] ["_law_points", "_law_scale"] (defScope sLlen) := ⟨rfl, rfl, rfl, by decide +kernel, rfl, by decide +kernel, by decide +kernel⟩
theorem ok_llen {f : Addr} {fd : FuncData} (F : Fun K "_law_length" "_law_length" sLlen f fd) (OR : Own P w K mg base "_law_root" ["_law_number"] 1 spRoot) (ml : mg "len" = none) (mr : mg "range" = none) :
    FnOk P w K mg base CX0 2 f fd ["_law_points", "_law_scale"] (spLlen K) := by
  refine F.ok scLlen (fun vs H Q E h => ?_) (fun cdv A outer s H vs Q E hr h => ?_)
  · obtain ⟨a, pts, S, rfl, _⟩ := h
    rfl
  · obtain ⟨a, pts, S, rfl, hL, hne, hlen, hS0, hS1, k⟩ := h
    obtain ⟨⟨xs, hs, hp⟩, hsm⟩ := hL
    have hl := hp.len
    have hl1 := len_pos hne
    refine ⟨_, pss_cons (ps_set (i := 2) scLlen.nd rfl (Or.inl rfl) pe_int) (pss_cons (ps_set (i := 3) scLlen.nd rfl (Or.inl rfl) pe_bl)
      (pss_cons (ps_for PassesOwn.never rfl (pi_range1 (by rfl) mr (pa_cons (pe_op op_sub (pe_callB call_len_seq (by rfl) ml PySem.boot_len (pa_cons (pv 0) pa_nil)) pe_int) pa_nil)) (pg_name (i := 4) scLlen.nd rfl (Or.inl rfl))
        (pss_cons (ps_set (i := 5) scLlen.nd rfl (Or.inl rfl) (pe_op op_mul (pe_op op_sub (pe_ix ix_tup (pe_ix ix_list (pv 0) (pe_op op_add (pv 4) pe_int) (fun _ _ => rfl)) pe_int (fun _ _ => rfl)) (pe_ix ix_tup (pe_ix ix_list (pv 0) (pv 4) (fun _ _ => rfl)) pe_int (fun _ _ => rfl))) (pv 1)))
        (pss_cons (ps_set (i := 6) scLlen.nd rfl (Or.inl rfl) (pe_op op_mul (pe_op op_sub (pe_ix ix_tup (pe_ix ix_list (pv 0) (pe_op op_add (pv 4) pe_int) (fun _ _ => rfl)) pe_int (fun _ _ => rfl)) (pe_ix ix_tup (pe_ix ix_list (pv 0) (pv 4) (fun _ _ => rfl)) pe_int (fun _ _ => rfl))) (pv 1)))
        (pss_cons (ps_set (i := 7) scLlen.nd rfl (Or.inl rfl) (pe_own OR hr (by rfl) (pa_cons (pe_op op_add (pe_op op_mul (pv 5) (pv 5)) (pe_op op_mul (pv 6) (pv 6))) pa_nil)))
        (pss_cons (ps_set (i := 2) scLlen.nd rfl (Or.inl rfl) (pe_op op_add (pv 2) (pv 7)))
        (pss_one (ps_set (i := 3) scLlen.nd rfl (Or.inl rfl) (pe_and (pv 3) (pe_one (pe_cmpR op_eq (pe_op op_mul (pv 7) (pv 7)) (pe_op op_add (pe_op op_mul (pv 5) (pv 5)) (pe_op op_mul (pv 6) (pv 6))) (nomark _)))))))))))
      (pss_one (ps_ret (pe_lst (pa_cons (pv 2) (pa_cons (pv 3) pa_nil))))))), ?_⟩
    refine q_asg ev_c fun H1 x1 => q_asg ev_c fun H2 x2 => ?_
    refine q_forR1 (n := (xs.length : Int) - 1) (ea_cons (ev_op (ev_len (ev_var rfl) (ex_l (x1.trans x2) hs)) ev_c rv_I0) ea_nil) ⟨by omega, by omega⟩
      (fun i σ H' => ∃ y4 y5 y6 y7, σ = [some (.ref a), some (.int S), some (.int (sumP (lw S) (pts.take (i + 1)))), some (.bl (allP (exq S) (pts.take (i + 1)))), y4, y5, y6, y7] ∧ Ex H H')
      (fun H3 x3 => ⟨none, none, none, none, by rw [sumP_one, allP_one]; rfl, (x1.trans x2).trans x3⟩) (fun i σ H3 hi hW => ?_) (fun σ H3 hW => ?_)
    · obtain ⟨y4, y5, y6, y7, rfl, x3⟩ := hW
      obtain ⟨p, q, e1, e2, m1, m2⟩ := two_pts (pts := pts) (i := i) hne (by omega)
      obtain ⟨vp, f1, r1⟩ := hp.get e1
      obtain ⟨vq, f2, r2⟩ := hp.get e2
      have s1 := hsm p m1
      have s2 := hsm q m2
      unfold Sm at s1 s2
      obtain ⟨⟨b1, b2⟩, ⟨b3, b4⟩, b5, b6⟩ := sq2_bd (v := sb q p) (S := S) (by show -2000000 ≤ q.1 - p.1; omega) (by show q.1 - p.1 ≤ 2000000; omega) (by show -2000000 ≤ q.2 - p.2; omega) (by show q.2 - p.2 ≤ 2000000; omega) hS0 hS1
      have rs := rt_small b5 b6
      have rn := rt_nonneg (sq2 S (sb q p))
      rw [sumP_take _ _ _ _ _ e1 e2, allP_take _ _ _ _ _ e1 e2]
      -- a, b
      have hs3 := ex_l x3 hs
      refine q_asg (v := .int ((sb q p).1 * S)) (ev_op (ev_op (ev_px (ev_op (ev_var rfl) (ev_op (ev_var rfl) ev_c rv_I0) (rv_ixL hs3 (at1 f2))) (r2.mono x3)) (ev_px (ev_op (ev_var rfl) (ev_var rfl) (rv_ixL hs3 (at0 f1))) (r1.mono x3)) rv_I0) (ev_var rfl) (rv_I (cm (by omega) (by omega)))) fun H4 x4 => ?_
      have hs4 := ex_l x4 hs3
      refine q_asg (v := .int ((sb q p).2 * S)) (ev_op (ev_op (ev_pz (ev_op (ev_var rfl) (ev_op (ev_var rfl) ev_c rv_I0) (rv_ixL hs4 (at1 f2))) (r2.mono (x3.trans x4))) (ev_pz (ev_op (ev_var rfl) (ev_var rfl) (rv_ixL hs4 (at0 f1))) (r1.mono (x3.trans x4))) rv_I0) (ev_var rfl) (rv_I (cm (by omega) (by omega)))) fun H5 x5 => ?_
      have sq : ∀ (σ : L2.St) (H : Hp), σ[5]? = some (some (.int ((sb q p).1 * S))) → σ[6]? = some (some (.int ((sb q p).2 * S))) →
          Ev (tOp (rI0 fun i j => .int (i + j)) (tOp (rI CMul fun i j => .int (i * j)) (tVar 5) (tVar 5)) (tOp (rI CMul fun i j => .int (i * j)) (tVar 6) (tVar 6))) σ H (.int (sq2 S (sb q p))) := fun σ H g1 g2 =>
        ev_op (ev_op (ev_var g1) (ev_var g1) (rv_I (.inl ⟨by omega, by omega⟩))) (ev_op (ev_var g2) (ev_var g2) (rv_I (.inl ⟨by omega, by omega⟩))) rv_I0
      refine q_asg (v := .int (lw S (sb q p))) (ev_call (ea_cons (sq _ _ rfl rfl) ea_nil) (spv_root b5 b6)) fun H6 x6 => ?_
      refine q_asg (ev_op (ev_var rfl) (ev_var rfl) rv_I0) fun H7 x7 => ?_
      refine s_asg (v := .bl (allP (exq S) (pts.take (i + 1)) && exq S (sb q p))) (ev_andV (ev_var rfl) fun _ => ?_) fun H8 x8 => ?_
      · have := ev_op (r := rEq) (ta := tOp (rI CMul fun i j => .int (i * j)) (tVar 7) (tVar 7)) (σ := [some (.ref a), some (.int S), some (.int (sumP (lw S) (pts.take (i + 1)) + lw S (sb q p))), some (.bl (allP (exq S) (pts.take (i + 1)))), some (.int (i : Int)), some (.int ((sb q p).1 * S)), some (.int ((sb q p).2 * S)), some (.int (lw S (sb q p)))]) (H := H7)
          (ev_op (ev_var rfl) (ev_var rfl) (rv_I (.inl ⟨by unfold lw; omega, by unfold lw; omega⟩))) (sq _ _ rfl rfl) (rv_eq rfl)
        refine ev_is this ?_
        unfold exq
        congr 1
        simp
      · exact ⟨_, _, _, _, rfl, ((((x3.trans x4).trans x5).trans x6).trans x7).trans x8⟩
    · obtain ⟨y4, y5, y6, y7, rfl, x3⟩ := hW
      rw [hl, take_all hne]
      exact s_retL (el_lst (ea_cons (ev_var rfl) (ea_cons (ev_var rfl) ea_nil)) (by show 2 ≤ 100000; decide)) fun p H4 hn x4 e4 => k p H4 (fresh_back x3 hn) (x3.trans x4) e4
theorem scLb : FnScope ["points", "scale", "low", "high", "at", "square", "part"] ["points", "scale"] (defScope sLb) := ⟨rfl, rfl, rfl, by decide +kernel, rfl, by decide +kernel, by decide +kernel⟩
theorem ok_lb {f : Addr} {fd : FuncData} (F : Fun K "length_bounds" "length_bounds" sLb f fd) (OR : Own P w K mg base "root" ["number"] 1 spRoot) (OD : Own P w K mg base "distance" ["a", "b"] 1 (spDist K)) (ml : mg "len" = none) (mr : mg "range" = none) :
    FnOk P w K mg base CX0 2 f fd ["points", "scale"] (spLb K) := by
  refine F.ok scLb (fun vs H Q E h => ?_) (fun cdv A outer s H vs Q E hr h => ?_)
  · obtain ⟨a, pts, S, rfl, _⟩ := h
    rfl
  · obtain ⟨a, pts, S, rfl, hL, hne, hlen, hS0, hS1, k⟩ := h
    obtain ⟨⟨xs, hs, hp⟩, hsm⟩ := hL
    have hl := hp.len
    have hl1 := len_pos hne
    refine ⟨_, pss_cons (ps_set (i := 2) scLb.nd rfl (Or.inl rfl) pe_int) (pss_cons (ps_set (i := 3) scLb.nd rfl (Or.inl rfl) pe_int)
      (pss_cons (ps_for PassesOwn.never rfl (pi_range1 (by rfl) mr (pa_cons (pe_op op_sub (pe_callB call_len_seq (by rfl) ml PySem.boot_len (pa_cons (pv 0) pa_nil)) pe_int) pa_nil)) (pg_name (i := 4) scLb.nd rfl (Or.inl rfl))
        (pss_cons (ps_set (i := 5) scLb.nd rfl (Or.inl rfl) (pe_op op_mul (pe_op op_mul (pe_own OD hr (by rfl) (pa_cons (pe_ix ix_list (pv 0) (pv 4) (fun _ _ => rfl)) (pa_cons (pe_ix ix_list (pv 0) (pe_op op_add (pv 4) pe_int) (fun _ _ => rfl)) pa_nil))) (pv 1)) (pv 1)))
        (pss_cons (ps_set (i := 6) scLb.nd rfl (Or.inl rfl) (pe_own OR hr (by rfl) (pa_cons (pv 5) pa_nil)))
        (pss_cons (ps_aug (i := 2) scLb.nd rfl (.inl rfl) (pv 6) ip_add)
        (pss_one (ps_aug (i := 3) scLb.nd rfl (.inl rfl) (pe_ifExp (pt_cmpR op_eq (pe_op op_mul (pv 6) (pv 6)) (pv 5) (nomark _)) (pv 6) (pe_op op_add (pv 6) pe_int)) ip_add))))))
      (pss_one (ps_ret (pe_tup (pa_cons (pv 2) (pa_cons (pv 3) pa_nil))))))), ?_⟩
    refine q_asg ev_c fun H1 x1 => q_asg ev_c fun H2 x2 => ?_
    refine q_forR1 (n := (xs.length : Int) - 1) (ea_cons (ev_op (ev_len (ev_var rfl) (ex_l (x1.trans x2) hs)) ev_c rv_I0) ea_nil) ⟨by omega, by omega⟩
      (fun i σ H' => ∃ y4 y5 y6, σ = [some (.ref a), some (.int S), some (.int (sumP (lw S) (pts.take (i + 1)))), some (.int (sumP (hw S) (pts.take (i + 1)))), y4, y5, y6] ∧ Ex H H')
      (fun H3 x3 => ⟨none, none, none, by rw [sumP_one, sumP_one]; rfl, (x1.trans x2).trans x3⟩) (fun i σ H3 hi hW => ?_) (fun σ H3 hW => ?_)
    · obtain ⟨y4, y5, y6, rfl, x3⟩ := hW
      obtain ⟨p, q, e1, e2, m1, m2⟩ := two_pts (pts := pts) (i := i) hne (by omega)
      obtain ⟨vp, f1, r1⟩ := hp.get e1
      obtain ⟨vq, f2, r2⟩ := hp.get e2
      have s1 := hsm p m1
      have s2 := hsm q m2
      have S1 := s1; have S2 := s2
      unfold Sm at s1 s2
      obtain ⟨⟨b1, b2⟩, ⟨b3, b4⟩, b5, b6⟩ := sq2_bd (v := sb q p) (S := S) (by show -2000000 ≤ q.1 - p.1; omega) (by show q.1 - p.1 ≤ 2000000; omega) (by show -2000000 ≤ q.2 - p.2; omega) (by show q.2 - p.2 ≤ 2000000; omega) hS0 (by omega)
      have rs := rt_small b5 b6
      have rn := rt_nonneg (sq2 S (sb q p))
      rw [sumP_take _ _ _ _ _ e1 e2, sumP_take _ _ _ _ _ e1 e2]
      have hd : dist p q * S * S = sq2 S (sb q p) := by unfold dist sq2 sb; grind
      have hd0 : 0 ≤ dist p q := Int.add_nonneg (sq0 _) (sq0 _)
      have hd1 : dist p q ≤ 8000000000000 := by
        have u1 := sqr_bd (A := 2000000) (x := p.1 - q.1) (by omega) (by omega)
        have u2 := sqr_bd (A := 2000000) (x := p.2 - q.2) (by omega) (by omega)
        unfold dist
        omega
      have hd2 : -(8000000000000 * 1000000) ≤ dist p q * S ∧ dist p q * S ≤ 8000000000000 * 1000000 := mul_bd (by omega) hd1 hS0 hS1 (by decide)
      have hs3 := ex_l x3 hs
      refine q_asg (v := .int (sq2 S (sb q p))) (ev_is (ev_op (ev_op (ev_call (ea_cons (ev_op (ev_var rfl) (ev_var rfl) (rv_ixL hs3 (at0 f1))) (ea_cons (ev_op (ev_var rfl) (ev_op (ev_var rfl) ev_c rv_I0) (rv_ixL hs3 (at1 f2))) ea_nil)) (spv_dist (r1.mono x3) (r2.mono x3) S1 S2)) (ev_var rfl) (rv_I (.inl ⟨by omega, by omega⟩))) (ev_var rfl) (rv_I (.inl ⟨by omega, by omega⟩))) (by rw [hd])) fun H4 x4 => ?_
      refine q_asg (v := .int (lw S (sb q p))) (ev_call (ea_cons (ev_var rfl) ea_nil) (spv_root b5 b6)) fun H5 x5 => ?_
      refine q_aug rfl (ev_var rfl) fun H6 x6 => ?_
      refine s_aug (b := hw S (sb q p)) rfl (ev_if (b := exq S (sb q p)) (et_is (et_test (ev_op (ev_op (ev_var rfl) (ev_var rfl) (rv_I (.inl ⟨by unfold lw; omega, by unfold lw; omega⟩))) (ev_var rfl) (rv_eq rfl))) ?_) (fun hb => ?_) (fun hb => ?_)) fun H7 x7 => ?_
      · unfold exq; simp
      · have : hw S (sb q p) = lw S (sb q p) := by unfold hw; rw [if_pos hb]
        rw [this]
        exact ev_var rfl
      · have : hw S (sb q p) = lw S (sb q p) + 1 := by unfold hw; rw [if_neg (by simp [hb])]
        rw [this]
        exact ev_op (ev_var rfl) ev_c rv_I0
      · exact ⟨_, _, _, rfl, (((x3.trans x4).trans x5).trans x6).trans x7⟩
    · obtain ⟨y4, y5, y6, rfl, x3⟩ := hW
      rw [hl, take_all hne]
      exact s_retU (eu_tup (ea_cons (ev_var rfl) (ea_cons (ev_var rfl) ea_nil)) (by show 2 ≤ 100000; decide)) fun p H4 hn x4 e4 => k p H4 (fresh_back x3 hn) (x3.trans x4) e4
end
end FW
namespace FW
open PySem PySem.Spec PyProof.Rows L2 FP Evl
/-! ### what evaluates to something of which P holds -/
def EvX (te : TE) (σ : L2.St) (H : Hp) (Pv : V → Hp → Prop) : Prop := ∀ H1, Ex H H1 → ∀ Q : VK, (∀ v H2, Ex H1 H2 → Pv v H2 → Q v H2) → te σ H1 Q
def SpX (sp : Sp) (vs : List V) (H : Hp) (Pv : V → Hp → Prop) : Prop := ∀ H1, Ex H H1 → ∀ Q : VK, (∀ v H2, Ex H1 H2 → Pv v H2 → Q v H2) → ∀ E : XK, sp vs H1 Q E
section
variable {K : Fg} {σ : L2.St} {H H' : Hp} {ta te : TE} {t : TT} {D : L2.Ends} {tz : TS} {Pv : V → Hp → Prop}
theorem EvX.mono (e : Ex H H') (h : EvX te σ H Pv) : EvX te σ H' Pv := fun H1 a Q q => h H1 (e.trans a) Q q
theorem evx_call {sp : Sp} {dvs vs : List V} {E : XK} {tA : TA} (h : EvA tA σ H vs) (hs : SpX sp (vs ++ dvs) H Pv) : EvX (tCall sp dvs E tA) σ H Pv := fun H1 e Q q =>
  h H1 e _ fun H2 e2 => hs H2 (e.trans e2) Q (fun v H3 e3 p => q v H3 (e2.trans e3) p) E
theorem evx_meth {sp : Sp} {C x dx : Addr} {fs : List (Str × V)} {m : Str} {dvs vs : List V} {E : XK} {tA : TA} (ho : Ev ta σ H (.ref x)) (hx : H x = some (.ins C dx fs)) (hn : fs.lookup m = none) (h : EvA tA σ H vs) (hs : SpX sp (.ref x :: (vs ++ dvs)) H Pv) :
    EvX (tMeth C m sp dvs E ta tA) σ H Pv := fun H1 e Q q =>
  ho H1 e _ fun H2 e2 => ⟨x, dx, fs, rfl, (e.trans e2) _ _ hx, hn, h H2 (e.trans e2) _ fun H3 e3 => hs H3 ((e.trans e2).trans e3) Q (fun v H4 e4 p => q v H4 ((e2.trans e3).trans e4) p) E⟩
theorem evx_ev {v : V} (h : Ev te σ H v) (p : ∀ H1, Ex H H1 → Pv v H1) : EvX te σ H Pv := fun H1 e Q q => h H1 e _ fun H2 e2 => q v H2 e2 (p H2 (e.trans e2))
theorem evx_evU {xs : List V} (h : EvU te σ H xs) (p : ∀ q H1, Ex H H1 → H1 q = some (.tup xs) → Pv (.ref q) H1) : EvX te σ H Pv := fun H1 e Q q => h H1 e _ fun l H2 _ e2 h2 => q _ H2 e2 (p l H2 (e.trans e2) h2)
theorem evx_if {b : Bool} {tb : TE} (h : EvT t σ H b) (h1 : b = true → EvX ta σ H Pv) (h2 : b = false → EvX tb σ H Pv) : EvX (tIf t ta tb) σ H Pv := fun H1 e Q q => h H1 e _ fun H2 e2 => by
  cases b with
  | true =>
    show ta σ H2 Q
    exact h1 rfl H2 (e.trans e2) Q fun v H3 e3 p => q v H3 (e2.trans e3) p
  | false =>
    show tb σ H2 Q
    exact h2 rfl H2 (e.trans e2) Q fun v H3 e3 p => q v H3 (e2.trans e3) p
theorem s_asgX {i : Nat} (h : EvX te σ H Pv) (k : ∀ v H1, Ex H H1 → Pv v H1 → D.nx (σ.set i (some v)) H1) : tAsg te (gName i) D σ H := h H (Evl.Ex.refl H) _ k
theorem q_asgX {i : Nat} (h : EvX te σ H Pv) (k : ∀ v H1, Ex H H1 → Pv v H1 → tz D (σ.set i (some v)) H1) : tSeq (tAsg te (gName i)) tz D σ H := s_asgX (D := { D with nx := tz D }) h k
theorem s_retX (h : EvX te σ H Pv) (k : ∀ v H1, Ex H H1 → Pv v H1 → D.rt v H1) : tRet te D σ H := h H (Evl.Ex.refl H) _ k
theorem ev_fld {C x dx : Addr} {fs : List (Str × V)} {f : Str} {v : V} (h : Ev ta σ H (.ref x)) (hx : H x = some (.ins C dx fs)) (c : Cls K C) (n : NoAttr K C f) (l : fs.lookup f = some v) : Ev (tFld K ta f) σ H v := fun H1 e Q q =>
  h H1 e _ fun H2 e2 => ⟨x, C, dx, fs, v, rfl, (e.trans e2) _ _ hx, c, n, l, q H2 e2⟩
theorem rv_isN {x : V} : RV (fun x y H Q => y = .non ∧ Q (.bl (decide (x = .non))) H) x .non H (.bl (decide (x = .non))) := fun H1 e Q q => ⟨rfl, q H1 (Evl.Ex.refl H1)⟩
theorem rv_notN {x : V} : RV (fun x y H Q => y = .non ∧ Q (.bl (!decide (x = .non))) H) x .non H (.bl (!decide (x = .non))) := fun H1 e Q q => ⟨rfl, q H1 (Evl.Ex.refl H1)⟩
end
/-! ### bends, a funnel -/
def BdA (K : Fg) (H : Hp) (v : V) (b : Bd) : Prop := ∃ a p, v = .ref a ∧ SqT K H a [p, .int (b.2 : Int)] ∧ PtA K H p b.1
def OBdA (K : Fg) (H : Hp) (v : V) : Option Bd → Prop
  | none => v = .non
  | some b => BdA K H v b
theorem BdA.mono {K : Fg} {H H' : Hp} {v : V} {b : Bd} (e : Ex H H') (h : BdA K H v b) : BdA K H' v b := by
  obtain ⟨a, p, r, s, q⟩ := h
  exact ⟨a, p, r, ex_t e s, q.mono e⟩
theorem OBdA.mono {K : Fg} {H H' : Hp} {v : V} : ∀ {b : Option Bd}, Ex H H' → OBdA K H v b → OBdA K H' v b
  | none, _, h => h
  | some b, e, h => BdA.mono e h
theorem OBdA.dec {K : Fg} {H : Hp} {v : V} : ∀ {b : Option Bd}, OBdA K H v b → decide (v = .non) = b.isNone
  | none, h => by
    have h : v = .non := h
    subst h; rfl
  | some b, h => by
    obtain ⟨a, p, rfl, _⟩ := h
    rfl
theorem BdA.pt {K : Fg} {H : Hp} {v : V} {b : Bd} (h : BdA K H v b) : ∃ p, PtA K H p b.1 ∧ ∀ te σ, Ev te σ H v → Ev (tOp (rIxT K) te (tC (.int 0))) σ H p := by
  obtain ⟨a, p, rfl, s, q⟩ := h
  exact ⟨p, q, fun te σ e => ev_op e ev_c (rv_ixT s (atI_nat (j := 0) rfl))⟩
theorem BdA.ix {K : Fg} {H : Hp} {v : V} {b : Bd} (h : BdA K H v b) : ∀ te σ, Ev te σ H v → Ev (tOp (rIxT K) te (tC (.int 1))) σ H (.int (b.2 : Int)) := by
  obtain ⟨a, p, rfl, s, q⟩ := h
  exact fun te σ e => ev_op e ev_c (rv_ixT s (atI_nat (j := 1) rfl))
theorem n_al : ¬ (("apex" : Str) = "left") := by decide +kernel
theorem n_ar : ¬ (("apex" : Str) = "right") := by decide +kernel
theorem n_lr : ¬ (("left" : Str) = "right") := by decide +kernel
def ff (va vl vr : V) : List (Str × V) := [("apex", va), ("left", vl), ("right", vr)]
theorem ff_put2 (va vl : V) : putF "left" vl (putF "apex" va []) = ([("apex", va), ("left", vl)] : List (Str × V)) := by
  show (if ("apex" : Str) = "left" then ([("apex", vl)] : List (Str × V)) else (("apex" : Str), va) :: ([("left", vl)] : List (Str × V))) = _
  rw [if_neg n_al]
theorem ff_put (va vl vr : V) : putF "right" vr (putF "left" vl (putF "apex" va [])) = ff va vl vr := by
  rw [ff_put2]
  show (if ("apex" : Str) = "right" then ([("apex", vr), ("left", vl)] : List (Str × V)) else (("apex" : Str), va) :: (if ("left" : Str) = "right" then ([("left", vr)] : List (Str × V)) else (("left" : Str), vl) :: ([("right", vr)] : List (Str × V)))) = _
  rw [if_neg n_ar, if_neg n_lr]
  rfl
theorem ff_lookup (va vl vr : V) (g : Str) : (ff va vl vr).lookup g = if g = "right" then some vr else if g = "left" then some vl else if g = "apex" then some va else none := by
  rw [← ff_put, lookup_putF, lookup_putF, lookup_putF]
  rfl
theorem ff_apex (va vl vr : V) : (ff va vl vr).lookup ("apex" : Str) = some va := by rw [ff_lookup, if_neg n_ar, if_neg n_al, if_pos rfl]
theorem ff_left (va vl vr : V) : (ff va vl vr).lookup ("left" : Str) = some vl := by rw [ff_lookup, if_neg n_lr, if_pos rfl]
theorem ff_right (va vl vr : V) : (ff va vl vr).lookup ("right" : Str) = some vr := by rw [ff_lookup, if_pos rfl]
theorem ff_misses (va vl vr : V) : (ff va vl vr).lookup ("misses" : Str) = none := by rw [ff_lookup, if_neg (by decide +kernel), if_neg (by decide +kernel), if_neg (by decide +kernel)]
theorem ff_narrow (va vl vr : V) : (ff va vl vr).lookup ("narrow" : Str) = none := by rw [ff_lookup, if_neg (by decide +kernel), if_neg (by decide +kernel), if_neg (by decide +kernel)]
theorem ff_putL (va vl vr v : V) : putF "left" v (ff va vl vr) = ff va v vr := by
  show (if ("apex" : Str) = "left" then ([("apex", v), ("left", vl), ("right", vr)] : List (Str × V)) else (("apex" : Str), va) :: (if ("left" : Str) = "left" then ([("left", v), ("right", vr)] : List (Str × V)) else (("left" : Str), vl) :: putF "left" v [("right", vr)])) = _
  rw [if_neg n_al, if_pos rfl]
  rfl
theorem ff_putR (va vl vr v : V) : putF "right" v (ff va vl vr) = ff va vl v := by
  show (if ("apex" : Str) = "right" then ([("apex", v), ("left", vl), ("right", vr)] : List (Str × V)) else (("apex" : Str), va) :: (if ("left" : Str) = "right" then ([("left", v), ("right", vr)] : List (Str × V)) else (("left" : Str), vl) :: (if ("right" : Str) = "right" then ([("right", v)] : List (Str × V)) else (("right" : Str), vr) :: putF "right" v []))) = _
  rw [if_neg n_ar, if_neg n_lr, if_pos rfl]
  rfl
def FunA (K : Fg) (C : Addr) (H : Hp) (x : Addr) (A : Pt) (st : Option (Bd × Bd)) : Prop :=
  ∃ dx va vl vr, H x = some (.ins C dx (ff va vl vr)) ∧ PtA K H va A ∧ OBdA K H vl (st.map (·.1)) ∧ OBdA K H vr (st.map (·.2))
theorem FunA.mono {K : Fg} {C : Addr} {H H' : Hp} {x : Addr} {A : Pt} {st : Option (Bd × Bd)} (e : Ex H H') (h : FunA K C H x A st) : FunA K C H' x A st := by
  obtain ⟨dx, va, vl, vr, h1, h2, h3, h4⟩ := h
  exact ⟨dx, va, vl, vr, e _ _ h1, h2.mono e, h3.mono e, h4.mono e⟩
/-- an instance is stored into: what is read of tuples stays -/
theorem sqT_ins {K : Fg} {H : Hp} {x a C dx : Addr} {fs : List (Str × V)} {o : HO} {xs : List V} (hx : H x = some (.ins C dx fs)) (h : SqT K H a xs) : SqT K (upd H x o) a xs := by
  rcases h with (h | ⟨ob, h⟩) | h
  · exact .inl (.inl (by rw [upd_ne (ne_of h hx (by intro q; cases q))]; exact h))
  · exact .inl (.inr ⟨ob, by rw [upd_ne (ne_of h hx (by intro q; cases q))]; exact h⟩)
  · exact .inr h
theorem PtA.ins {K : Fg} {H : Hp} {x C dx : Addr} {fs : List (Str × V)} {o : HO} {v : V} {p : Pt} (hx : H x = some (.ins C dx fs)) (h : PtA K H v p) : PtA K (upd H x o) v p := by
  obtain ⟨a, r, s⟩ := h
  exact ⟨a, r, sqT_ins hx s⟩
theorem OBdA.ins {K : Fg} {H : Hp} {x C dx : Addr} {fs : List (Str × V)} {o : HO} {v : V} (hx : H x = some (.ins C dx fs)) : ∀ {b : Option Bd}, OBdA K H v b → OBdA K (upd H x o) v b
  | none, h => h
  | some b, h => by
    obtain ⟨a, p, r, s, q⟩ := h
    exact ⟨a, p, r, sqT_ins hx s, q.ins hx⟩
def SmO (st : Option (Bd × Bd)) : Prop := ∀ L R, st = some (L, R) → Sm L.1 ∧ Sm R.1
/-! ### promises -/
def spInit (K : Fg) (C : Addr) : Sp := fun vs H Q _ => ∃ (x dx : Addr) (va : V) (A : Pt), vs = [.ref x, va] ∧ H x = some (.ins C dx []) ∧ PtA K H va A ∧ ∀ H', (∀ b o, b ≠ x → H b = some o → H' b = some o) → FunA K C H' x A none → Q .non H'
def spMiss (K : Fg) (C : Addr) : Sp := fun vs H Q _ => ∃ (x : Addr) (vl vr : V) (A l r : Pt) (st : Option (Bd × Bd)), vs = [.ref x, vl, vr] ∧ FunA K C H x A st ∧ PtA K H vl l ∧ PtA K H vr r ∧ Sm A ∧ Sm l ∧ Sm r ∧ SmO st ∧
  ∀ H' v, Ex H H' → OBdA K H' v (misses A st l r) → Q v H'
def spNarr (K : Fg) (C : Addr) : Sp := fun vs H Q _ => ∃ (x : Addr) (vg : V) (A : Pt) (g : Gate) (k : Nat) (st : Option (Bd × Bd)), vs = [.ref x, vg, .int (k : Int)] ∧ FunA K C H x A st ∧ GateA K H vg g ∧ Sm A ∧ SmG g ∧ SmO st ∧
  ∀ H', (∀ b o, b ≠ x → H b = some o → H' b = some o) → FunA K C H' x A (narrow A st g k) → Q .non H'
structure FT (K : Fg) (mg : Str → Option Value) (C fI fM fN : Addr) : Prop where
  cl : Cls K C
  nA : NoAttr K C "apex"
  nL : NoAttr K C "left"
  nR : NoAttr K C "right"
  mgC : mg "Funnel" = some (.ref C)
  M : Mk K C fI
  mM : Meth K C "misses" fM
  mN : Meth K C "narrow" fN
section
variable {P : Program} {w : World} {K : Fg} {mg : Str → Option Value} {base : Heap} {C fI fM fN : Addr}
theorem scInit : FnScope ["self", "apex"] ["self", "apex"] (defScope sInit) := ⟨rfl, rfl, rfl, by decide +kernel, rfl, by decide +kernel, by decide +kernel⟩
theorem ok_init {f : Addr} {fd : FuncData} (F : Fun K "__init__" "Funnel.__init__" sInit f fd) (T : FT K mg C fI fM fN) : FnOk P w K mg base CX0 1 f fd ["self", "apex"] (spInit K C) := by
  refine F.ok scInit (fun vs H Q E h => ?_) (fun cdv A outer s H vs Q E hr h => ?_)
  · obtain ⟨x, dx, va, A, rfl, _⟩ := h
    rfl
  · obtain ⟨x, dx, va, p, rfl, hx, ha, k⟩ := h
    refine ⟨_, pss_cons (ps_fld (pv 0) (pv 1) rfl) (pss_cons (ps_fld (pv 0) pe_non rfl) (pss_one (ps_fld (pv 0) pe_non rfl))), ?_⟩
    refine ⟨_, rfl, _, rfl, x, C, dx, _, rfl, hx, T.cl, T.nA, (by show 0 < 1000; decide), ?_⟩
    refine ⟨_, rfl, x, C, dx, _, rfl, upd_same, T.cl, T.nL, (by show 1 < 1000; decide), ?_⟩
    refine ⟨_, rfl, x, C, dx, _, rfl, upd_same, T.cl, T.nR, (by rw [ff_put2]; show 2 < 1000; decide), ?_⟩
    refine k _ (fun b o hb e => by rw [upd_ne hb, upd_ne hb, upd_ne hb]; exact e) ?_
    rw [upd_upd, upd_upd, ff_put]
    exact ⟨dx, va, .non, .non, upd_same, ha.ins hx, rfl, rfl⟩
theorem scMiss : FnScope ["self", "left", "right"] ["self", "left", "right"] (defScope sMiss) := ⟨rfl, rfl, rfl, by decide +kernel, rfl, by decide +kernel, by decide +kernel⟩
theorem ok_miss {f : Addr} {fd : FuncData} (F : Fun K "misses" "Funnel.misses" sMiss f fd) (T : FT K mg C fI fM fN) (OC : Own P w K mg base "cross" ["a", "b", "c"] 1 (spCross K)) : FnOk P w K mg base CX0 2 f fd ["self", "left", "right"] (spMiss K C) := by
  refine F.ok scMiss (fun vs H Q E h => ?_) (fun cdv A outer s H vs Q E hr h => ?_)
  · obtain ⟨x, vl, vr, A, l, r, st, rfl, _⟩ := h
    rfl
  · obtain ⟨x, vl, vr, A, l, r, st, rfl, hF, hl, hr', sA, sl, sr, sst, k⟩ := h
    obtain ⟨dx, va, v1, v2, hx, hA, h1, h2⟩ := hF
    refine ⟨_, pss_cons (ps_if (pt_cmpR op_isN (pe_fld (pv 0) rfl) pe_non (nomark _)) (pss_one (ps_ret pe_non)) pss_nil)
      (pss_cons (ps_if (pt_cmpR op_gt (pe_own OC hr (by rfl) (pa_cons (pe_fld (pv 0) rfl) (pa_cons (pe_ix ix_tup (pe_fld (pv 0) rfl) pe_int (fun _ _ => rfl)) (pa_cons (pv 2) pa_nil)))) pe_int (nomark _)) (pss_one (ps_ret (pe_fld (pv 0) rfl))) pss_nil)
      (pss_cons (ps_if (pt_cmpR op_lt (pe_own OC hr (by rfl) (pa_cons (pe_fld (pv 0) rfl) (pa_cons (pe_ix ix_tup (pe_fld (pv 0) rfl) pe_int (fun _ _ => rfl)) (pa_cons (pv 1) pa_nil)))) pe_int (nomark _)) (pss_one (ps_ret (pe_fld (pv 0) rfl))) pss_nil)
      (pss_one (ps_ret pe_non)))), ?_⟩
    have fA : ∀ (σ : L2.St), σ[0]? = some (some (.ref x)) → Ev (tFld K (tVar 0) "apex") σ H va := fun σ e => ev_fld (ev_var e) hx T.cl T.nA (ff_apex _ _ _)
    have fL : ∀ (σ : L2.St), σ[0]? = some (some (.ref x)) → Ev (tFld K (tVar 0) "left") σ H v1 := fun σ e => ev_fld (ev_var e) hx T.cl T.nL (ff_left _ _ _)
    have fR : ∀ (σ : L2.St), σ[0]? = some (some (.ref x)) → Ev (tFld K (tVar 0) "right") σ H v2 := fun σ e => ev_fld (ev_var e) hx T.cl T.nR (ff_right _ _ _)
    refine q_when (et_test (ev_op (fL _ rfl) ev_c rv_isN)) (fun hb H1 x1 => ?_) (fun hb H1 x1 => ?_)
    · rw [h1.dec] at hb
      cases st with
      | some LR => cases hb
      | none => exact s_ret ev_c fun H2 x2 => k H2 _ (x1.trans x2) rfl
    · rw [h1.dec] at hb
      cases st with
      | none => cases hb
      | some LR =>
        obtain ⟨L, R⟩ := LR
        obtain ⟨sL, sR⟩ := sst L R rfl
        obtain ⟨p1, q1, g1⟩ := BdA.pt (show BdA K H v1 L from h1)
        obtain ⟨p2, q2, g2⟩ := BdA.pt (show BdA K H v2 R from h2)
        refine q_when ((et_test (ev_op (ev_call (ea_cons (fA _ rfl) (ea_cons (g1 _ _ (fL _ rfl)) (ea_cons (ev_var rfl) ea_nil))) (spv_cross hA q1 hr' sA sL sr)) ev_c rv_I0)).mono x1) (fun hb2 H2 x2 => ?_) (fun hb2 H2 x2 => ?_)
        · have hb3 : 0 < cross A L.1 r := by simpa using hb2
          refine s_ret ((fL _ rfl).mono (x1.trans x2)) fun H3 x3 => k H3 _ ((x1.trans x2).trans x3) ?_
          simp only [misses]
          rw [if_pos hb3]
          exact BdA.mono ((x1.trans x2).trans x3) h1
        · have hb3 : ¬ 0 < cross A L.1 r := by simpa using hb2
          refine q_when ((et_test (ev_op (ev_call (ea_cons (fA _ rfl) (ea_cons (g2 _ _ (fR _ rfl)) (ea_cons (ev_var rfl) ea_nil))) (spv_cross hA q2 hl sA sR sl)) ev_c rv_I0)).mono (x1.trans x2)) (fun hb4 H3 x3 => ?_) (fun hb4 H3 x3 => ?_)
          · have hb5 : cross A R.1 l < 0 := by simpa using hb4
            refine s_ret ((fR _ rfl).mono ((x1.trans x2).trans x3)) fun H4 x4 => k H4 _ (((x1.trans x2).trans x3).trans x4) ?_
            simp only [misses]
            rw [if_neg hb3, if_pos hb5]
            exact BdA.mono (((x1.trans x2).trans x3).trans x4) h2
          · have hb5 : ¬ cross A R.1 l < 0 := by simpa using hb4
            refine s_ret ev_c fun H4 x4 => k H4 _ (((x1.trans x2).trans x3).trans x4) ?_
            simp only [misses]
            rw [if_neg hb3, if_neg hb5]
            rfl
theorem scNarr : FnScope ["self", "ends", "at"] ["self", "ends", "at"] (defScope sNarr) := ⟨rfl, rfl, rfl, by decide +kernel, rfl, by decide +kernel, by decide +kernel⟩
end
end FW
namespace FW
open PySem PySem.Spec PyProof.Rows L2 FP Evl
def Nx (x : Addr) (H H' : Hp) : Prop := ∀ b o, b ≠ x → H b = some o → H' b = some o
theorem sqT_n {K : Fg} {H H' : Hp} {x a C dx : Addr} {fs : List (Str × V)} {xs : List V} (hx : H x = some (.ins C dx fs)) (n : Nx x H H') (h : SqT K H a xs) : SqT K H' a xs := by
  rcases h with (h | ⟨ob, h⟩) | h
  · exact .inl (.inl (n _ _ (ne_of h hx (by intro q; cases q)) h))
  · exact .inl (.inr ⟨ob, n _ _ (ne_of h hx (by intro q; cases q)) h⟩)
  · exact .inr h
theorem PtA.n {K : Fg} {H H' : Hp} {x C dx : Addr} {fs : List (Str × V)} {v : V} {p : Pt} (hx : H x = some (.ins C dx fs)) (n : Nx x H H') (h : PtA K H v p) : PtA K H' v p := by
  obtain ⟨a, r, s⟩ := h
  exact ⟨a, r, sqT_n hx n s⟩
theorem BdA.n {K : Fg} {H H' : Hp} {x C dx : Addr} {fs : List (Str × V)} {v : V} {b : Bd} (hx : H x = some (.ins C dx fs)) (n : Nx x H H') (h : BdA K H v b) : BdA K H' v b := by
  obtain ⟨a, p, r, s, q⟩ := h
  exact ⟨a, p, r, sqT_n hx n s, q.n hx n⟩
theorem OBdA.n {K : Fg} {H H' : Hp} {x C dx : Addr} {fs : List (Str × V)} {v : V} (hx : H x = some (.ins C dx fs)) (n : Nx x H H') : ∀ {b : Option Bd}, OBdA K H v b → OBdA K H' v b
  | none, h => h
  | some b, h => BdA.n hx n h
theorem GateA.n {K : Fg} {H H' : Hp} {x C dx : Addr} {fs : List (Str × V)} {v : V} {g : Gate} (hx : H x = some (.ins C dx fs)) (n : Nx x H H') (h : GateA K H v g) : GateA K H' v g := by
  obtain ⟨a, l, r, h1, s, h2, h3⟩ := h
  exact ⟨a, l, r, h1, sqT_n hx n s, h2.n hx n, h3.n hx n⟩
theorem Nx.of {x : Addr} {H H' : Hp} (e : Ex H H') : Nx x H H' := fun b o _ h => e b o h
theorem Nx.upd {x : Addr} {H H' : Hp} {o : HO} (e : Nx x H H') : Nx x H (upd H' x o) := fun b u hb h => by
  rw [upd_ne hb]
  exact e b u hb h
/-- x.f = (a new tuple) -/
theorem s_fldU {K : Fg} {σ : L2.St} {H : Hp} {ta te : TE} {D : L2.Ends} {x C dx : Addr} {fs : List (Str × V)} {f : Str} {xs : List V} (h : EvU te σ H xs) (ho : ∀ H1, Ex H H1 → Ev ta σ H1 (.ref x)) (hx : H x = some (.ins C dx fs)) (c : Cls K C) (n : NoAttr K C f) (hl : fs.length < 1000)
    (k : ∀ p H1, H p = none → Ex H H1 → H1 p = some (.tup xs) → D.nx σ (upd H1 x (.ins C dx (putF f (.ref p) fs)))) : sFld K ta te f D σ H :=
  h H (Evl.Ex.refl H) _ fun p H1 hp e1 h1 => ho H1 e1 H1 (Evl.Ex.refl H1) _ fun H2 e2 => ⟨x, C, dx, fs, rfl, e2 _ _ (e1 _ _ hx), c, n, hl, k p H2 hp (e1.trans e2) (e2 _ _ h1)⟩
def nl (A : Pt) (st : Option (Bd × Bd)) (g : Gate) (k : Nat) : Bd := match st with | none => (g.1, k) | some (L, _) => if cross A L.1 g.1 ≤ 0 then (g.1, k) else L
def nr (A : Pt) (st : Option (Bd × Bd)) (g : Gate) (k : Nat) : Bd := match st with | none => (g.2, k) | some (_, R) => if 0 ≤ cross A R.1 g.2 then (g.2, k) else R
theorem narrow_eq (A : Pt) (st : Option (Bd × Bd)) (g : Gate) (k : Nat) : narrow A st g k = some (nl A st g k, nr A st g k) := by
  cases st with
  | none => rfl
  | some LR => rfl
structure LstG (K : Fg) (H : Hp) (a : Addr) (gs : List Gate) : Prop where
  at_ : ∃ xs, SqL K H a xs ∧ AllA (GateA K H) xs gs
  sm : ∀ g ∈ gs, SmG g
theorem LstG.mono {K : Fg} {H H' : Hp} {a : Addr} {gs : List Gate} (e : Ex H H') (h : LstG K H a gs) : LstG K H' a gs := by
  obtain ⟨⟨xs, s, r⟩, m⟩ := h
  exact ⟨⟨xs, ex_l e s, r.imp fun _ _ z => z.mono e⟩, m⟩
def spNb (K : Fg) : Sp := fun vs H Q _ => ∃ (va : V) (gl : Addr) (ve : V) (A e : Pt) (gates : List Gate) (first : Nat), vs = [va, .ref gl, .int (first : Int), ve] ∧ PtA K H va A ∧ LstG K H gl gates ∧ PtA K H ve e ∧ Sm A ∧ Sm e ∧ gates.length ≤ 1000 ∧ first ≤ 1000 ∧
  ∀ H' v, Ex H H' → OBdA K H' v (nb A e none first (gates.drop first)) → Q v H'
section
variable {P : Program} {w : World} {K : Fg} {mg : Str → Option Value} {base : Heap} {C fI fM fN : Addr}
theorem ok_narr {f : Addr} {fd : FuncData} (F : Fun K "narrow" "Funnel.narrow" sNarr f fd) (T : FT K mg C fI fM fN) (OC : Own P w K mg base "cross" ["a", "b", "c"] 1 (spCross K)) : FnOk P w K mg base CX0 2 f fd ["self", "ends", "at"] (spNarr K C) := by
  refine F.ok scNarr (fun vs H Q E h => ?_) (fun cdv A outer s H vs Q E hr h => ?_)
  · obtain ⟨x, vg, A, g, n, st, rfl, _⟩ := h
    rfl
  · obtain ⟨x, vg, A, g, n, st, rfl, hF, hg, sA, sg, sst, k⟩ := h
    obtain ⟨dx, va, v1, v2, hx, hA, h1, h2⟩ := hF
    refine ⟨_, pss_cut (ps_if (PW.pt (pw_or (pt_cmpR op_isN (pe_fld (pv 0) rfl) pe_non (nomark _)) (pw_or1 (pt_cmpR op_le (pe_own OC hr (by rfl) (pa_cons (pe_fld (pv 0) rfl) (pa_cons (pe_ix ix_tup (pe_fld (pv 0) rfl) pe_int (fun _ _ => rfl)) (pa_cons (pe_ix ix_tup (pv 1) pe_int (fun _ _ => rfl)) pa_nil)))) pe_int (nomark _)))))
        (pss_one (ps_fld (pv 0) (pe_tup (pa_cons (pe_ix ix_tup (pv 1) pe_int (fun _ _ => rfl)) (pa_cons (pv 2) pa_nil))) rfl)) pss_nil)
      (pss_one (ps_if (PW.pt (pw_or (pt_cmpR op_isN (pe_fld (pv 0) rfl) pe_non (nomark _)) (pw_or1 (pt_cmpR op_ge (pe_own OC hr (by rfl) (pa_cons (pe_fld (pv 0) rfl) (pa_cons (pe_ix ix_tup (pe_fld (pv 0) rfl) pe_int (fun _ _ => rfl)) (pa_cons (pe_ix ix_tup (pv 1) pe_int (fun _ _ => rfl)) pa_nil)))) pe_int (nomark _)))))
        (pss_one (ps_fld (pv 0) (pe_tup (pa_cons (pe_ix ix_tup (pv 1) pe_int (fun _ _ => rfl)) (pa_cons (pv 2) pa_nil))) rfl)) pss_nil)), ?_⟩
    obtain ⟨l, r, hl, hr', e0, e1⟩ := hg.ends
    refine ⟨fun σ' H' => σ' = [some (.ref x), some vg, some (.int (n : Int))] ∧ ∃ v1', H' x = some (.ins C dx (ff va v1' v2)) ∧ BdA K H' v1' (nl A st g n) ∧ Nx x H H', ?_, fun σ' H1 hM => ?_⟩
    · have fA : Ev (tFld K (tVar 0) "apex") [some (.ref x), some vg, some (.int (n : Int))] H va := ev_fld (ev_var rfl) hx T.cl T.nA (ff_apex _ _ _)
      have fL : Ev (tFld K (tVar 0) "left") [some (.ref x), some vg, some (.int (n : Int))] H v1 := ev_fld (ev_var rfl) hx T.cl T.nL (ff_left _ _ _)
      have body : ∀ (D : L2.Ends) H1, Ex H H1 → (∀ p H2, H1 p = none → Ex H1 H2 → H2 p = some (.tup [l, .int (n : Int)]) → D.nx [some (.ref x), some vg, some (.int (n : Int))] (upd H2 x (.ins C dx (ff va (.ref p) v2)))) →
          sFld K (tVar 0) (tTup (tCons (tOp (rIxT K) (tVar 1) (tC (.int 0))) (tCons (tVar 2) tNil))) "left" D [some (.ref x), some vg, some (.int (n : Int))] H1 := fun D H1 x1 kk =>
        s_fldU (eu_tup (ea_cons ((e0 _ _ (ev_var rfl)).mono x1) (ea_cons (ev_var rfl) ea_nil)) (by show 2 ≤ 100000; decide)) (fun _ _ => ev_var rfl) (x1 _ _ hx) T.cl T.nL (by show 3 < 1000; decide) fun p H2 hp x2 h2 => by
          rw [ff_putL]
          exact kk p H2 hp x2 h2
      have fin : ∀ H1 p H2, Ex H H1 → H1 p = none → Ex H1 H2 → H2 p = some (.tup [l, .int (n : Int)]) → nl A st g n = (g.1, n) →
          ∃ v1', (upd H2 x (.ins C dx (ff va (.ref p) v2))) x = some (.ins C dx (ff va v1' v2)) ∧ BdA K (upd H2 x (.ins C dx (ff va (.ref p) v2))) v1' (nl A st g n) ∧ Nx x H (upd H2 x (.ins C dx (ff va (.ref p) v2))) := fun H1 p H2 x1 hp x2 h2 en =>
        ⟨.ref p, upd_same, by
          rw [en]
          exact ⟨p, l, rfl, sqT_ins ((x1.trans x2) _ _ hx) (st_of h2), (hl.mono (x1.trans x2)).ins ((x1.trans x2) _ _ hx)⟩, (Nx.of (x1.trans x2)).upd⟩
      cases st with
      | none =>
        refine s_when (et_or (b := true) (et_test (ev_op fL ev_c rv_isN)) (fun hb => by rw [h1.dec] at hb; cases hb)) (fun hb H1 x1 => ?_) (fun hb H1 x1 => ?_)
        · exact body _ H1 x1 fun p H2 hp x2 h2 => ⟨rfl, fin H1 p H2 x1 hp x2 h2 rfl⟩
        · rw [h1.dec] at hb; cases hb
      | some LR =>
        obtain ⟨L, R⟩ := LR
        obtain ⟨sL, sR⟩ := sst L R rfl
        have h1' : BdA K H v1 L := h1
        obtain ⟨p1, q1, g1⟩ := h1'.pt
        have hn : decide (v1 = .non) = false := h1.dec
        refine s_when (et_or (et_test (ev_op fL ev_c rv_isN)) (fun _ => et_test (ev_op (ev_call (ea_cons fA (ea_cons (g1 _ _ fL) (ea_cons (e0 _ _ (ev_var rfl)) ea_nil))) (spv_cross hA q1 hl sA sL sg.1)) ev_c rv_I0))) (fun hb H1 x1 => ?_) (fun hb H1 x1 => ?_)
        · rw [hn, Bool.false_or] at hb
          have hb2 : cross A L.1 g.1 ≤ 0 := by simpa using hb
          have en : nl A (some (L, R)) g n = (g.1, n) := by unfold nl; simp only []; rw [if_pos hb2]
          exact body _ H1 x1 fun p H2 hp x2 h2 => ⟨rfl, fin H1 p H2 x1 hp x2 h2 en⟩
        · rw [hn, Bool.false_or] at hb
          have hb2 : ¬ cross A L.1 g.1 ≤ 0 := by simpa using hb
          have en : nl A (some (L, R)) g n = L := by unfold nl; simp only []; rw [if_neg hb2]
          exact ⟨rfl, v1, x1 _ _ hx, by rw [en]; exact h1'.mono x1, Nx.of x1⟩
    · obtain ⟨rfl, v1', hx1, hB1, hN⟩ := hM
      have hA1 := hA.n hx hN
      have hg1 := hg.n hx hN
      have h21 := h2.n hx hN
      obtain ⟨l, r, hl, hr', e0, e1⟩ := hg1.ends
      have fA : Ev (tFld K (tVar 0) "apex") [some (.ref x), some vg, some (.int (n : Int))] H1 va := ev_fld (ev_var rfl) hx1 T.cl T.nA (ff_apex _ _ _)
      have fR : Ev (tFld K (tVar 0) "right") [some (.ref x), some vg, some (.int (n : Int))] H1 v2 := ev_fld (ev_var rfl) hx1 T.cl T.nR (ff_right _ _ _)
      have body : ∀ (D : L2.Ends) H2, Ex H1 H2 → (∀ p H3, H2 p = none → Ex H2 H3 → H3 p = some (.tup [r, .int (n : Int)]) → D.nx [some (.ref x), some vg, some (.int (n : Int))] (upd H3 x (.ins C dx (ff va v1' (.ref p))))) →
          sFld K (tVar 0) (tTup (tCons (tOp (rIxT K) (tVar 1) (tC (.int 1))) (tCons (tVar 2) tNil))) "right" D [some (.ref x), some vg, some (.int (n : Int))] H2 := fun D H2 x1 kk =>
        s_fldU (eu_tup (ea_cons ((e1 _ _ (ev_var rfl)).mono x1) (ea_cons (ev_var rfl) ea_nil)) (by show 2 ≤ 100000; decide)) (fun _ _ => ev_var rfl) (x1 _ _ hx1) T.cl T.nR (by show 3 < 1000; decide) fun p H2 hp x2 h2 => by
          rw [ff_putR]
          exact kk p H2 hp x2 h2
      have fin : ∀ H2 p H3, Ex H1 H2 → H2 p = none → Ex H2 H3 → H3 p = some (.tup [r, .int (n : Int)]) → nr A st g n = (g.2, n) → Q .non (upd H3 x (.ins C dx (ff va v1' (.ref p)))) := fun H2 p H3 x1 hp x2 h2 en => by
        refine k _ (fun b o hb e => by rw [upd_ne hb]; exact (x1.trans x2) _ _ (hN b o hb e)) ?_
        rw [narrow_eq, en]
        exact ⟨dx, va, v1', .ref p, upd_same, (hA1.mono (x1.trans x2)).ins ((x1.trans x2) _ _ hx1), OBdA.ins (b := some (nl A st g n)) ((x1.trans x2) _ _ hx1) (hB1.mono (x1.trans x2)),
          ⟨p, r, rfl, sqT_ins ((x1.trans x2) _ _ hx1) (st_of h2), (hr'.mono (x1.trans x2)).ins ((x1.trans x2) _ _ hx1)⟩⟩
      cases st with
      | none =>
        refine s_when (et_or (b := true) (et_test (ev_op fR ev_c rv_isN)) (fun hb => by rw [h2.dec] at hb; cases hb)) (fun hb H2 x1 => ?_) (fun hb H2 x1 => ?_)
        · exact body _ H2 x1 fun p H3 hp x2 h3 => fin H2 p H3 x1 hp x2 h3 rfl
        · rw [h2.dec] at hb; cases hb
      | some LR =>
        obtain ⟨L, R⟩ := LR
        obtain ⟨sL, sR⟩ := sst L R rfl
        have h2' : BdA K H1 v2 R := h21
        obtain ⟨p1, q1, g1⟩ := h2'.pt
        have hn : decide (v2 = .non) = false := h2.dec
        refine s_when (et_or (et_test (ev_op fR ev_c rv_isN)) (fun _ => et_test (ev_op (ev_call (ea_cons fA (ea_cons (g1 _ _ fR) (ea_cons (e1 _ _ (ev_var rfl)) ea_nil))) (spv_cross hA1 q1 hr' sA sR sg.2)) ev_c rv_I0))) (fun hb H2 x1 => ?_) (fun hb H2 x1 => ?_)
        · rw [hn, Bool.false_or] at hb
          have hb2 : 0 ≤ cross A R.1 g.2 := by simpa using hb
          have en : nr A (some (L, R)) g n = (g.2, n) := by unfold nr; simp only []; rw [if_pos hb2]
          exact body _ H2 x1 fun p H3 hp x2 h3 => fin H2 p H3 x1 hp x2 h3 en
        · rw [hn, Bool.false_or] at hb
          have hb2 : ¬ 0 ≤ cross A R.1 g.2 := by simpa using hb
          have en : nr A (some (L, R)) g n = R := by unfold nr; simp only []; rw [if_neg hb2]
          refine k _ (fun b o hb e => x1 _ _ (hN b o hb e)) ?_
          rw [narrow_eq, en]
          exact ⟨dx, va, v1', v2, x1 _ _ hx1, hA1.mono x1, BdA.mono x1 hB1, h2'.mono x1⟩
end
end FW
namespace FW
open PySem PySem.Spec PyProof.Rows L2 FP Evl
theorem atF {xs : List V} {f i : Nat} {v : V} (h : xs[f + i]? = some v) : atI xs ((f : Int) + (i : Int)) = some v := by
  rw [← Int.natCast_add]
  exact atI_nat (j := f + i) h
theorem spx_miss {K : Fg} {C : Addr} {H : Hp} {x : Addr} {vl vr : V} {A l r : Pt} {st : Option (Bd × Bd)} (hF : FunA K C H x A st) (hl : PtA K H vl l) (hr : PtA K H vr r) (s1 : Sm A) (s2 : Sm l) (s3 : Sm r) (s4 : SmO st) :
    SpX (spMiss K C) [.ref x, vl, vr] H (fun v H' => OBdA K H' v (misses A st l r)) :=
  fun H1 e Q q E => ⟨x, vl, vr, A, l, r, st, rfl, hF.mono e, hl.mono e, hr.mono e, s1, s2, s3, s4, fun H' v e2 p => q v H' e2 p⟩
theorem spx_near {K : Fg} {H : Hp} {a b : V} {g : Gate} {p : Pt} (ha : GateA K H a g) (hb : PtA K H b p) (h1 : SmG g) (h2 : Sm p) : SpX (spNear K) [a, b] H (fun v H' => PtA K H' v (nearer g p)) :=
  fun H1 e Q q E => ⟨a, b, g, p, rfl, ha.mono e, hb.mono e, h1, h2, fun H' v e2 z => q v H' e2 z⟩
theorem drop_get {α : Type} : ∀ {l : List α} {k : Nat}, k < l.length → ∃ g, l[k]? = some g ∧ l.drop k = g :: l.drop (k + 1) := fun {l k} h => ⟨l[k], List.getElem?_eq_getElem h, List.drop_eq_getElem_cons h⟩
theorem FunA.get {K : Fg} {C : Addr} {H : Hp} {x : Addr} {A : Pt} {st : Option (Bd × Bd)} (h : FunA K C H x A st) : ∃ dx va vl vr, H x = some (.ins C dx (ff va vl vr)) ∧ OBdA K H vl (st.map (·.1)) := by
  obtain ⟨dx, va, vl, vr, h1, _, h3, _⟩ := h
  exact ⟨dx, va, vl, vr, h1, h3⟩
section
variable {P : Program} {w : World} {K : Fg} {mg : Str → Option Value} {base : Heap} {C fI fM fN : Addr} {fdI fdM fdN : FuncData}
theorem scNb : FnScope ["apex", "gates", "first", "end", "funnel", "at", "ends", "near", "bend"] ["apex", "gates", "first", "end"] (defScope sNb) := ⟨rfl, rfl, rfl, by decide +kernel, rfl, by decide +kernel, by decide +kernel⟩
theorem ok_nb {f : Addr} {fd : FuncData} (F : Fun K "next_bend" "next_bend" sNb f fd) (T : FT K mg C fI fM fN) (GI : FnOk P w K mg base CX0 1 fI fdI ["self", "apex"] (spInit K C)) (bI : Binds K fdI ["self", "apex"] [])
    (GM : FnOk P w K mg base CX0 2 fM fdM ["self", "left", "right"] (spMiss K C)) (bM : Binds K fdM ["self", "left", "right"] []) (GN : FnOk P w K mg base CX0 2 fN fdN ["self", "ends", "at"] (spNarr K C)) (bN : Binds K fdN ["self", "ends", "at"] [])
    (OC : Own P w K mg base "cross" ["a", "b", "c"] 1 (spCross K)) (OO : Own P w K mg base "on_gate" ["ends", "point"] 2 (spOn K)) (ON : Own P w K mg base "nearer" ["ends", "point"] 2 (spNear K)) (ml : mg "len" = none) (mr : mg "range" = none) :
    FnOk P w K mg base CX0 4 f fd ["apex", "gates", "first", "end"] (spNb K) := by
  refine F.ok scNb (fun vs H Q E h => ?_) (fun cdv Ar outer s H vs Q E hr h => ?_)
  · obtain ⟨va, gl, ve, A, e, gates, first, rfl, _⟩ := h
    rfl
  · obtain ⟨va, gl, ve, A, e, gates, first, rfl, hA, hG, he, sA, se, hlen, hfst, k⟩ := h
    obtain ⟨⟨xs, hs, hp⟩, hsm⟩ := hG
    have hl := hp.len
    have hr1 : Room 1 _ := hr.mono (by decide)
    have hr2 : Room 2 _ := hr.mono (by decide)
    refine ⟨_, (pss_cons (ps_set (i := 4) scNb.nd rfl (Or.inl rfl) (pe_make T.M GI hr2 (by rfl) T.mgC bI .nil pass0 (pa_cons (pv 0) pa_nil))) (pss_cons (ps_for PassesOwn.never rfl (pi_range2 (by rfl) mr (pa_cons (pv 2) (pa_cons (pe_callB call_len_seq (by rfl) ml PySem.boot_len (pa_cons (pv 1) pa_nil)) pa_nil))) (pg_name (i := 5) scNb.nd rfl (Or.inl rfl)) (pss_cons (ps_set (i := 6) scNb.nd rfl (Or.inl rfl) (pe_ix ix_list (pv 1) (pv 5) (fun _ _ => rfl))) (pss_cons (ps_if (pt_cmpR op_eq (pe_own OC hr1 (by rfl) (pa_cons (pe_ix ix_tup (pv 6) pe_int (fun _ _ => rfl)) (pa_cons (pe_ix ix_tup (pv 6) pe_int (fun _ _ => rfl)) (pa_cons (pv 0) pa_nil)))) pe_int (nomark _)) (pss_cons (ps_if (PW.pt (pw_and (pt_cmpR op_isN (pe_fld (pv 4) rfl) pe_non (nomark _)) (pw_and1 (pt_val (pe_own OO hr2 (by rfl) (pa_cons (pv 6) (pa_cons (pv 0) pa_nil))))))) (pss_one ps_continue) pss_nil) (pss_cons (ps_set (i := 7) scNb.nd rfl (Or.inl rfl) (pe_own ON hr2 (by rfl) (pa_cons (pv 6) (pa_cons (pv 0) pa_nil)))) (pss_cons (ps_set (i := 8) scNb.nd rfl (Or.inl rfl) (pe_meth (pv 4) T.cl T.mM GM hr2 bM .nil pass0 (pa_cons (pv 7) (pa_cons (pv 7) pa_nil)))) (pss_one (ps_ret (pe_ifExp (pt_cmpR op_isN (pv 8) pe_non (nomark _)) (pe_tup (pa_cons (pv 7) (pa_cons (pv 5) pa_nil))) (pv 8))))))) pss_nil) (pss_cons (ps_set (i := 8) scNb.nd rfl (Or.inl rfl) (pe_meth (pv 4) T.cl T.mM GM hr2 bM .nil pass0 (pa_cons (pe_ix ix_tup (pv 6) pe_int (fun _ _ => rfl)) (pa_cons (pe_ix ix_tup (pv 6) pe_int (fun _ _ => rfl)) pa_nil)))) (pss_cons (ps_if (pt_cmpR op_notN (pv 8) pe_non (nomark _)) (pss_one (ps_ret (pv 8))) pss_nil) (pss_one (ps_expr (pe_meth (pv 4) T.cl T.mN GN hr2 bN .nil pass0 (pa_cons (pv 6) (pa_cons (pv 5) pa_nil)))))))))) (pss_one (ps_ret (pe_meth (pv 4) T.cl T.mM GM hr2 bM .nil pass0 (pa_cons (pv 3) (pa_cons (pv 3) pa_nil))))))), ?_⟩
    -- funnel = Funnel(apex)
    refine ⟨va, rfl, fun x dx hx hdx hne => ?_⟩
    have x0 : Ex H (upd (upd H dx (.own x)) x (.ins C dx [])) := (Evl.Ex.new hdx).trans (Evl.Ex.new (by rw [upd_ne (Ne.symm hne)]; exact hx))
    refine ⟨x, dx, va, A, rfl, upd_same, hA.mono x0, fun H1 n1 hF1 => ⟨rfl, ?_⟩⟩
    have x1 : Ex H H1 := fun b o hb => n1 b o (ne_of_none hb hx) (x0 b o hb)
    -- the loop
    refine q_forR2 (lo := (first : Int)) (n := (xs.length : Int)) (ea_cons (ev_var rfl) (ea_cons (ev_len (ev_var rfl) (ex_l x1 hs)) ea_nil)) ⟨by omega, by omega, by omega, by omega⟩
      (fun i σ H' => ∃ st y5 y6 y7 y8, σ = [some va, some (.ref gl), some (.int (first : Int)), some ve, some (.ref x), y5, y6, y7, y8] ∧ Ex H H' ∧ FunA K C H' x A st ∧ SmO st ∧ nb A e st (first + i) (gates.drop (first + i)) = nb A e none first (gates.drop first))
      (fun H2 x2 => ⟨none, none, none, none, none, rfl, x1.trans x2, hF1.mono x2, (by intro L R q; cases q), rfl⟩) (fun i σ H2 hi hW => ?_) (fun σ H2 hW => ?_)
    · obtain ⟨st, y5, y6, y7, y8, rfl, x2, hF, sst, hR⟩ := hW
      obtain ⟨g, eg, ed⟩ := drop_get (l := gates) (k := first + i) (by omega)
      rw [ed] at hR
      obtain ⟨vg, ev', hg⟩ := hp.get eg
      have hg2 := hg.mono x2
      have sg := hsm g (List.mem_of_getElem? eg)
      obtain ⟨dx2, va2, vl2, vr2, hx2, hvl⟩ := hF.get
      have hisn : decide (vl2 = .non) = st.isNone := by rw [hvl.dec]; cases st <;> rfl
      -- ends = gates[at]
      refine q_asg (ev_op (ev_var rfl) (ev_var rfl) (rv_ixL (ex_l x2 hs) (atF ev'))) fun H3 x3 => ?_
      have x03 := x2.trans x3
      have hg3 := hg.mono x03
      obtain ⟨l, r, hl3, hr3, e0, e1⟩ := hg3.ends
      have hA3 := hA.mono x03
      have hF3 := hF.mono x3
      have hx3 := x3 _ _ hx2
      refine q_when (et_test (ev_op (ev_call (ea_cons (e0 _ _ (ev_var rfl)) (ea_cons (e1 _ _ (ev_var rfl)) (ea_cons (ev_var rfl) ea_nil))) (spv_cross hl3 hr3 hA3 sg.1 sg.2 sA)) ev_c (rv_eq rfl))) (fun hb H4 x4 => ?_) (fun hb H4 x4 => ?_)
      · have h0 : cross g.1 g.2 A = 0 := by simpa using hb
        simp only [nb] at hR
        rw [if_pos h0] at hR
        refine q_when ((et_and (et_test (ev_op (ev_fld (ev_var rfl) hx3 T.cl T.nL (ff_left _ _ _)) ev_c rv_isN)) (fun _ => et_B (ev_call (ea_cons (ev_var rfl) (ea_cons (ev_var rfl) ea_nil)) (spv_on hg3 hA3 sg sA)))).mono x4) (fun hb2 H5 x5 => ?_) (fun hb2 H5 x5 => ?_)
        · rw [hisn] at hb2
          rw [if_pos hb2] at hR
          exact ⟨st, _, _, _, _, rfl, (x03.trans x4).trans x5, (hF3.mono x4).mono x5, sst, hR⟩
        · rw [hisn] at hb2
          rw [if_neg (by rw [hb2]; simp)] at hR
          refine q_asgX ((evx_call (ea_cons (ev_var rfl) (ea_cons (ev_var rfl) ea_nil)) (spx_near hg3 hA3 sg sA)).mono (x4.trans x5)) fun vn H6 x6 hn => ?_
          have x36 := (x4.trans x5).trans x6
          have sn : Sm (nearer g A) := near_cases (P := Sm) sg.1 sg.2
          refine q_asgX (evx_meth (ev_var rfl) (x36 _ _ hx3) (ff_misses _ _ _) (ea_cons (ev_var rfl) (ea_cons (ev_var rfl) ea_nil)) (spx_miss (hF3.mono x36) hn hn sA sn sn sst)) fun vb H7 x7 hb7 => ?_
          refine s_retX (Pv := fun v H' => OBdA K H' v (nb A e none first (gates.drop first))) (evx_if (b := (misses A st (nearer g A) (nearer g A)).isNone) (et_is (et_test (ev_op (ev_var rfl) ev_c rv_isN)) hb7.dec) (fun hq => ?_) (fun hq => ?_)) fun v H8 x8 hv => k H8 v ((((x03.trans x36)).trans x7).trans x8) hv
          · refine evx_evU (eu_tup (ea_cons (ev_var rfl) (ea_cons (ev_var rfl) ea_nil)) (by show 2 ≤ 100000; decide)) fun q H8 x8 hq8 => ?_
            rw [← hR]
            cases hm : misses A st (nearer g A) (nearer g A) with
            | some b => rw [hm] at hq; cases hq
            | none =>
              show BdA K H8 (.ref q) (nearer g A, first + i)
              exact ⟨q, vn, rfl, st_of (by rw [hq8, Int.natCast_add]), hn.mono (x7.trans x8)⟩
          · refine evx_ev (ev_var rfl) fun H8 x8 => ?_
            rw [← hR]
            cases hm : misses A st (nearer g A) (nearer g A) with
            | none => rw [hm] at hq; cases hq
            | some b =>
              rw [hm] at hb7
              exact OBdA.mono x8 hb7
      · have h0 : ¬ cross g.1 g.2 A = 0 := by simpa using hb
        simp only [nb] at hR
        rw [if_neg h0] at hR
        refine q_asgX ((evx_meth (ev_var rfl) hx3 (ff_misses _ _ _) (ea_cons (e0 _ _ (ev_var rfl)) (ea_cons (e1 _ _ (ev_var rfl)) ea_nil)) (spx_miss hF3 hl3 hr3 sA sg.1 sg.2 sst)).mono x4) fun vb H5 x5 hb5 => ?_
        refine q_when (et_test (ev_op (ev_var rfl) ev_c rv_notN)) (fun hb2 H6 x6 => ?_) (fun hb2 H6 x6 => ?_)
        · rw [hb5.dec] at hb2
          refine s_ret (ev_var rfl) fun H7 x7 => k H7 vb (((((x03.trans x4).trans x5).trans x6)).trans x7) ?_
          rw [← hR]
          cases hm : misses A st g.1 g.2 with
          | none => rw [hm] at hb2; cases hb2
          | some b =>
            rw [hm] at hb5
            exact OBdA.mono (x6.trans x7) hb5
        · rw [hb5.dec] at hb2
          have hm : misses A st g.1 g.2 = none := by
            cases hm : misses A st g.1 g.2 with
            | none => rfl
            | some b => rw [hm] at hb2; cases hb2
          rw [hm] at hR
          have x36 := (x4.trans x5).trans x6
          refine ⟨.ref x, rfl, x, dx2, _, rfl, x36 _ _ hx3, ff_narrow _ _ _, vg, rfl, .int ((first : Int) + (i : Int)), rfl, x, vg, A, g, first + i, st, by rw [Int.natCast_add]; rfl, hF3.mono x36, hg3.mono x36, sA, sg, sst, fun H7 n7 hF7 => ?_⟩
          refine ⟨_, _, _, _, _, rfl, fun b o hb => n7 b o (ne_of_none hb hx) ((x03.trans x36) b o hb), hF7, ?_, hR⟩
          intro L R q
          exact narrow_inv (P := fun b : Bd => Sm b.1) sst sg.1 sg.2 L R q
    · obtain ⟨st, y5, y6, y7, y8, rfl, x2, hF, sst, hR⟩ := hW
      obtain ⟨dx2, va2, vl2, vr2, hx2, _⟩ := hF.get
      have hd : gates.drop (first + ((xs.length : Int) - (first : Int)).toNat) = [] := List.drop_eq_nil_of_le (by omega)
      rw [hd] at hR
      have he2 := he.mono x2
      refine s_retX (evx_meth (ev_var rfl) hx2 (ff_misses _ _ _) (ea_cons (ev_var rfl) (ea_cons (ev_var rfl) ea_nil)) (spx_miss hF he2 he2 sA se se sst)) fun v H3 x3 hv => k H3 v (x2.trans x3) ?_
      rw [← hR]
      exact hv
end
end FW
namespace FW
open PySem PySem.Spec PyProof.Rows L2 FP Evl
theorem el_bmapp : True := trivial
/-! ### equality of points -/
theorem pt_dp {K : Fg} {H : Hp} {v : V} {p : Pt} (h : PtA K H v p) : Dp K H v (.tuple [.int p.1, .int p.2]) := by
  obtain ⟨a, rfl, s⟩ := h
  exact .tup s (.cons (.int _) (.cons (.int _) .nil))
theorem pt_eqv (p q : Pt) : PyData.eqv (.tuple [.int p.1, .int p.2]) (.tuple [.int q.1, .int q.2]) = decide (p = q) := by
  simp only [PyData.eqv, PyData.eqvAll, Bool.and_true]
  rw [Bool.eq_iff_iff]
  simp only [Bool.and_eq_true, beq_iff_eq, decide_eq_true_eq]
  exact ⟨fun h => Prod.ext h.1 h.2, fun h => by rw [h]; exact ⟨rfl, rfl⟩⟩
theorem rv_nePt {K : Fg} {H : Hp} {a b : V} {p q : Pt} (ha : PtA K H a p) (hb : PtA K H b q) : RV (rNeD K) a b H (.bl (!decide (p = q))) := fun H1 e Q k =>
  ⟨_, _, pt_dp (ha.mono e), pt_dp (hb.mono e), rfl, rfl, by rw [pt_eqv]; exact k H1 (Evl.Ex.refl H1)⟩
/-- a list that one makes: its items stand for points -/
structure MkP (K : Fg) (H0 H : Hp) (a : Addr) (pts : List Pt) : Prop where
  new : H0 a = none
  at_ : ∃ xs, H a = some (.lst xs) ∧ AllA (PtA K H) xs pts
theorem ev_unneg {σ : L2.St} {H : Hp} : Ev (tUn (rU fun i => V.int (-i)) (tC (.int 1))) σ H (.int (-1)) := ev_un ev_c ru_neg
def spWs (K : Fg) : Sp := fun vs H Q _ => ∃ (a b : Addr) (p : Pt) (pts : List Pt) (bs : List V), vs = [.ref a, .ref b] ∧ LstP K H a (p :: pts) ∧ SqL K H b bs ∧ pts.length ≤ bs.length + 1 ∧ pts.length ≤ 1000 ∧
  ∀ (t k l : Addr) H', Ex H H' → H' t = some (.tup [.ref k, .ref l]) → LstP K H' k (p :: prune p pts) → Q (.ref t) H'
theorem prune_step {k b c : Pt} {r : List Pt} : prune k (b :: c :: r) = if isStr k b c then prune k (c :: r) else b :: prune b (c :: r) := by
  conv => lhs; unfold prune
theorem drop_two {α : Type} {l : List α} {i : Nat} (h : i + 1 < l.length) : ∃ b c, l[i]? = some b ∧ l[i + 1]? = some c ∧ l.drop i = b :: c :: l.drop (i + 2) := by
  refine ⟨l[i], l[i + 1], List.getElem?_eq_getElem _, List.getElem?_eq_getElem _, ?_⟩
  rw [List.drop_eq_getElem_cons (by omega), List.drop_eq_getElem_cons h]
theorem drop_one {α : Type} {l : List α} {i : Nat} (h : i + 1 = l.length) : ∃ b, l[i]? = some b ∧ l.drop i = [b] := by
  refine ⟨l[i], List.getElem?_eq_getElem _, ?_⟩
  rw [List.drop_eq_getElem_cons (by omega), List.drop_eq_nil_of_le (by omega)]
/-- a list is stored into, and tuples stay -/
theorem sqT_lst {K : Fg} {H : Hp} {x a : Addr} {ys : List V} {o : HO} {xs : List V} (hx : H x = some (.lst ys)) (h : SqT K H a xs) : SqT K (upd H x o) a xs := by
  rcases h with (h | ⟨ob, h⟩) | h
  · exact .inl (.inl (by rw [upd_ne (ne_of h hx (by intro q; cases q))]; exact h))
  · exact .inl (.inr ⟨ob, by rw [upd_ne (ne_of h hx (by intro q; cases q))]; exact h⟩)
  · exact .inr h
theorem PtA.lst {K : Fg} {H : Hp} {x : Addr} {ys : List V} {o : HO} {v : V} {p : Pt} (hx : H x = some (.lst ys)) (h : PtA K H v p) : PtA K (upd H x o) v p := by
  obtain ⟨a, r, s⟩ := h
  exact ⟨a, r, sqT_lst hx s⟩
theorem at_end {xs : List V} {v : V} (h : xs.getLast? = some v) : atI xs (-1) = some v := by
  obtain ⟨ys, rfl⟩ := List.getLast?_eq_some_iff.mp h
  exact atI_last ys v
section
variable {P : Program} {w : World} {K : Fg} {mg : Str → Option Value} {base : Heap}
theorem scWs : FnScope ["points", "bends", "kept", "left", "at"] ["points", "bends"] (defScope sWs) := ⟨rfl, rfl, rfl, by decide +kernel, rfl, by decide +kernel, by decide +kernel⟩
theorem ok_ws {f : Addr} {fd : FuncData} (F : Fun K "without_straight" "without_straight" sWs f fd) (OS : Own P w K mg base "is_straight" ["a", "b", "c"] 2 (spStr K)) (ml : mg "len" = none) (mr : mg "range" = none) :
    FnOk P w K mg base CX0 3 f fd ["points", "bends"] (spWs K) := by
  refine F.ok scWs (fun vs H Q E h => ?_) (fun cdv Ar outer s H vs Q E hr h => ?_)
  · obtain ⟨a, b, p, pts, bs, rfl, _⟩ := h
    rfl
  · obtain ⟨a, b, p, pts, bs, rfl, hL, hb, hbl, hpl, k⟩ := h
    obtain ⟨⟨xs, hs, hp⟩, hsm⟩ := hL
    have hl := hp.len
    rw [List.length_cons] at hl
    refine ⟨_, (pss_cons (ps_set (i := 2) scWs.nd rfl (Or.inl rfl) (pe_lst (pa_cons (pe_ix ix_list (pv 0) pe_int (fun _ _ => rfl)) pa_nil))) (pss_cons (ps_set (i := 3) scWs.nd rfl (Or.inl rfl) (pe_lst pa_nil)) (pss_cons (ps_for PassesOwn.never rfl (pi_range2 (by rfl) mr (pa_cons pe_int (pa_cons (pe_op op_sub (pe_callB call_len_seq (by rfl) ml PySem.boot_len (pa_cons (pv 0) pa_nil)) pe_int) pa_nil))) (pg_name (i := 4) scWs.nd rfl (Or.inl rfl)) (pss_one (ps_if (pt_not (pt_val (pe_own OS hr (by rfl) (pa_cons (pe_ix ix_list (pv 2) (pe_un un_neg pe_int) (fun _ _ => rfl)) (pa_cons (pe_ix ix_list (pv 0) (pv 4) (fun _ _ => rfl)) (pa_cons (pe_ix ix_list (pv 0) (pe_op op_add (pv 4) pe_int) (fun _ _ => rfl)) pa_nil)))))) (pss_cons (ps_expr (pe_bm PySem.F.plainAttrs_list PySem.F.slot_list_append PySem.F.type_list_append mt_append (pv 2) (pa_cons (pe_ix ix_list (pv 0) (pv 4) (fun _ _ => rfl)) pa_nil))) (pss_one (ps_expr (pe_bm PySem.F.plainAttrs_list PySem.F.slot_list_append PySem.F.type_list_append mt_append (pv 3) (pa_cons (pe_ix ix_list (pv 1) (pe_op op_sub (pv 4) pe_int) (fun _ _ => rfl)) pa_nil))))) pss_nil))) (pss_cons (ps_if (pt_cmpR op_gt (pe_callB call_len_seq (by rfl) ml PySem.boot_len (pa_cons (pv 0) pa_nil)) pe_int (nomark _)) (pss_one (ps_expr (pe_bm PySem.F.plainAttrs_list PySem.F.slot_list_append PySem.F.type_list_append mt_append (pv 2) (pa_cons (pe_ix ix_list (pv 0) (pe_un un_neg pe_int) (fun _ _ => rfl)) pa_nil)))) pss_nil) (pss_one (ps_ret (pe_tup (pa_cons (pv 2) (pa_cons (pv 3) pa_nil))))))))), ?_⟩
    obtain ⟨v0, e0, r0⟩ := hp.get (i := 0) (x := p) rfl
    -- kept = [points[0]], left = []
    refine q_asgL (el_lst (ea_cons (ev_op (ev_var rfl) ev_c (rv_ixL hs (atI_nat (j := 0) e0))) ea_nil) (by show 1 ≤ 100000; decide)) fun kp H1 nk x1 h1 => ?_
    refine q_asgL (el_lst ea_nil (by show 0 ≤ 100000; decide)) fun lf H2 nl x2 h2 => ?_
    have nlk : lf ≠ kp := fun q => by rw [q, h1] at nl; cases nl
    have nl0 : H lf = none := fresh_back x1 nl
    refine q_forR2 (lo := 1) (n := (xs.length : Int) - 1) (ea_cons ev_c (ea_cons (ev_op (ev_len (ev_var rfl) (ex_l (x1.trans x2) hs)) ev_c rv_I0) ea_nil)) ⟨by omega, by omega, by omega, by omega⟩
      (fun i σ H' => ∃ y4 ks c cv kpts ls, σ = [some (.ref a), some (.ref b), some (.ref kp), some (.ref lf), y4] ∧ Ex H H' ∧ H' kp = some (.lst (ks ++ [cv])) ∧ AllA (PtA K H') (ks ++ [cv]) (kpts ++ [c]) ∧ PtA K H' cv c ∧ Sm c ∧ H' lf = some (.lst ls) ∧ ls.length ≤ i ∧ ks.length ≤ i ∧
        kpts ++ c :: prune c (pts.drop i) = p :: prune p pts)
      (fun H3 x3 => ⟨none, [], p, v0, [], [], rfl, (x1.trans x2).trans x3, x3 _ _ (x2 _ _ h1), .one (r0.mono ((x1.trans x2).trans x3)), r0.mono ((x1.trans x2).trans x3), hsm p (List.mem_cons_self ..), x3 _ _ h2, Nat.le_refl _, Nat.le_refl _, rfl⟩)
      (fun i σ H3 hi hW => ?_) (fun σ H3 hW => ?_)
    · obtain ⟨y4, ks, c, cv, kpts, ls, rfl, x3, hk, hA, hc, sc, hlf, hll, hkl, hR⟩ := hW
      obtain ⟨q, r, eq', er, ed⟩ := drop_two (l := pts) (i := i) (by omega)
      obtain ⟨vq, fq, rq⟩ := hp.get (i := i + 1) (x := q) (by simpa using eq')
      obtain ⟨vr, fr, rr⟩ := hp.get (i := i + 2) (x := r) (by simpa using er)
      have sq := hsm q (List.mem_cons_of_mem _ (List.mem_of_getElem? eq'))
      have sr := hsm r (List.mem_cons_of_mem _ (List.mem_of_getElem? er))
      have ed1 : pts.drop (i + 1) = r :: pts.drop (i + 2) := by
        have := congrArg List.tail ed
        rw [List.tail_drop] at this
        exact this
      rw [ed, prune_step] at hR
      have a1 : atI xs (1 + (i : Int)) = some vq := by
        rw [show (1 : Int) + (i : Int) = ((i + 1 : Nat) : Int) by omega]; exact atI_nat fq
      have a2 : atI xs (1 + (i : Int) + 1) = some vr := by
        rw [show (1 : Int) + (i : Int) + 1 = ((i + 2 : Nat) : Int) by omega]; exact atI_nat fr
      have hs3 := ex_l x3 hs
      refine s_when (et_not (et_B (ev_call (ea_cons (ev_op (ev_var rfl) ev_unneg (rv_ixL (sq_of hk) (atI_last ks cv))) (ea_cons (ev_op (ev_var rfl) (ev_var rfl) (rv_ixL hs3 a1)) (ea_cons (ev_op (ev_var rfl) (ev_op (ev_var rfl) ev_c rv_I0) (rv_ixL hs3 a2)) ea_nil))) (spv_str hc (rq.mono x3) (rr.mono x3) sc sq sr)))) (fun hb2 H4 x4 => ?_) (fun hb2 H4 x4 => ?_)
      · have hb3 : isStr c q r = false := by simpa using hb2
        rw [hb3, if_neg (by decide)] at hR
        refine q_app (x4 _ _ hk) (ev_var rfl) (ev_op (ev_var rfl) (ev_var rfl) (rv_ixL (ex_l x4 hs3) a1)) (by rw [List.length_append, List.length_singleton]; omega) fun H5 x5 => ?_
        have x35 := (x3.trans x4).trans x5
        have hk5 := x5 _ _ (x4 _ _ hk)
        have x35' : Ex H (upd H5 kp (.lst (ks ++ [cv] ++ [vq]))) := Evl.Ex.mut x35 nk
        have hlf5 : (upd H5 kp (.lst (ks ++ [cv] ++ [vq]))) lf = some (.lst ls) := by rw [upd_ne nlk]; exact x5 _ _ (x4 _ _ hlf)
        obtain ⟨vb, eb⟩ : ∃ vb, bs[i]? = some vb := ⟨bs[i]'(by omega), List.getElem?_eq_getElem _⟩
        have ab : atI bs (1 + (i : Int) - 1) = some vb := by
          rw [show (1 : Int) + (i : Int) - 1 = ((i : Nat) : Int) by omega]; exact atI_nat eb
        refine s_app hlf5 (ev_var rfl) (ev_op (ev_var rfl) (ev_op (ev_var rfl) ev_c rv_I0) (rv_ixL (ex_l x35' hb) ab)) (by omega) fun H6 x6 => ?_
        have hk6 : H6 kp = some (.lst (ks ++ [cv] ++ [vq])) := x6 _ _ upd_same
        have hlf6 := x6 _ _ hlf5
        refine ⟨_, ks ++ [cv], q, vq, kpts ++ [c], ls ++ [vb], rfl, Evl.Ex.mut (x35'.trans x6) nl0, by rw [upd_ne (Ne.symm nlk)]; exact hk6, ?_, ((rq.mono (x35'.trans x6))).lst hlf6, sq, upd_same, by rw [List.length_append, List.length_singleton]; omega, by rw [List.length_append, List.length_singleton]; omega, ?_⟩
        · refine ((hA.imp fun _ _ z => ?_).app (.one ((rq.mono (x35'.trans x6)).lst hlf6)))
          exact (((z.mono (x4.trans x5)).lst hk5).mono x6).lst hlf6
        · rw [List.append_assoc, ed1]
          exact hR
      · have hb3 : isStr c q r = true := by simpa using hb2
        rw [hb3, if_pos rfl, ← ed1] at hR
        exact ⟨_, ks, c, cv, kpts, ls, rfl, x3.trans x4, x4 _ _ hk, hA.imp fun _ _ z => z.mono x4, hc.mono x4, sc, x4 _ _ hlf, by omega, by omega, hR⟩
    · obtain ⟨y4, ks, c, cv, kpts, ls, rfl, x3, hk, hA, hc, sc, hlf, hll, hkl, hR⟩ := hW
      have fin : ∀ H4 zs zp, Ex H H4 → H4 kp = some (.lst zs) → AllA (PtA K H4) zs zp → zp = p :: prune p pts → ∀ (D : L2.Ends), D.rt = Q → tRet (tTup (tCons (tVar 2) (tCons (tVar 3) tNil))) D [some (.ref a), some (.ref b), some (.ref kp), some (.ref lf), y4] H4 := fun H4 zs zp x4 hz hZ ez D hD => by
        refine s_retU (eu_tup (ea_cons (ev_var rfl) (ea_cons (ev_var rfl) ea_nil)) (by show 2 ≤ 100000; decide)) fun t H5 _ x5 ht => ?_
        rw [hD]
        refine k t kp lf H5 (x4.trans x5) ht ⟨⟨zs, sq_of (x5 _ _ hz), by rw [← ez]; exact hZ.imp fun _ _ z => z.mono x5⟩, fun q hq => hsm q ?_⟩
        rcases List.mem_cons.mp hq with h | h
        · rw [h]; exact List.mem_cons_self ..
        · exact List.mem_cons_of_mem _ (prune_mem _ _ _ h)
      refine q_when (et_test (ev_op (ev_len (ev_var rfl) (ex_l x3 hs)) ev_c rv_I0)) (fun hb2 H4 x4 => ?_) (fun hb2 H4 x4 => ?_)
      · have hb3 : (1 : Int) < xs.length := by simpa using hb2
        have hn : ((xs.length : Int) - 1 - 1).toNat + 1 = pts.length := by omega
        obtain ⟨z, ez, ed⟩ := drop_one hn
        obtain ⟨vz, fz, rz⟩ := hp.get (i := ((xs.length : Int) - 1 - 1).toNat + 1) (x := z) (by simpa using ez)
        have az : atI xs (-1) = some vz := at_end (by rw [List.getLast?_eq_getElem?, show xs.length - 1 = ((xs.length : Int) - 1 - 1).toNat + 1 by omega]; exact fz)
        rw [ed] at hR
        refine s_app (x4 _ _ hk) (ev_var rfl) (ev_op (ev_var rfl) ev_unneg (rv_ixL (ex_l (x3.trans x4) hs) az)) (by rw [List.length_append, List.length_singleton]; omega) fun H5 x5 => ?_
        have hk5 := x5 _ _ (x4 _ _ hk)
        refine fin _ _ (kpts ++ [c] ++ [z]) (Evl.Ex.mut ((x3.trans x4).trans x5) nk) upd_same ((hA.imp fun _ _ y => (y.mono (x4.trans x5)).lst hk5).app (.one ((rz.mono ((x3.trans x4).trans x5)).lst hk5))) ?_ _ rfl
        rw [← hR, List.append_assoc]
        rfl
      · have hb3 : ¬ (1 : Int) < xs.length := by simpa using hb2
        have hp0 : pts = [] := List.length_eq_zero_iff.mp (by omega)
        subst hp0
        refine fin H4 _ (kpts ++ [c]) (x3.trans x4) (x4 _ _ hk) (hA.imp fun _ _ y => y.mono x4) ?_ _ rfl
        rw [List.drop_nil] at hR
        exact hR
end
end FW
namespace FW
open PySem PySem.Spec PyProof.Rows L2 FP Evl
theorem path_app (e : Pt) : ∀ (bs : List Bd) (A : Pt) (pp : List Pt) (Z : Pt), A :: bs.map (·.1) = pp ++ [Z] → A :: pathOf e A bs = pp ++ [Z] ++ (if Z = e then [] else [e])
  | [], A, pp, Z, h => by
    have h' : [A] = pp ++ [Z] := h
    cases pp with
    | nil => cases h'; rfl
    | cons x r => simp at h'
  | b :: bs, A, pp, Z, h => by
    cases pp with
    | nil => simp at h
    | cons x r =>
      simp only [List.map_cons, List.cons_append, List.cons.injEq] at h
      obtain ⟨rfl, h⟩ := h
      have := path_app e bs b.1 r Z h
      simp only [pathOf, List.cons_append, List.cons.injEq, true_and]
      exact this
theorem BdA.lst {K : Fg} {H : Hp} {x : Addr} {ys : List V} {o : HO} {v : V} {b : Bd} (hx : H x = some (.lst ys)) (h : BdA K H v b) : BdA K (upd H x o) v b := by
  obtain ⟨a, p, r, s, q⟩ := h
  exact ⟨a, p, r, sqT_lst hx s, q.lst hx⟩
theorem spx_nb {K : Fg} {H : Hp} {va : V} {gl : Addr} {ve : V} {A e : Pt} {gates : List Gate} {first : Nat} (hA : PtA K H va A) (hG : LstG K H gl gates) (he : PtA K H ve e) (sA : Sm A) (se : Sm e) (h1 : gates.length ≤ 1000) (h2 : first ≤ 1000) :
    SpX (spNb K) [va, .ref gl, .int (first : Int), ve] H (fun v H' => OBdA K H' v (nb A e none first (gates.drop first))) :=
  fun H1 x Q q E => ⟨va, gl, ve, A, e, gates, first, rfl, hA.mono x, hG.mono x, he.mono x, sA, se, h1, h2, fun H' v e2 z => q v H' e2 z⟩
def TautA (K : Fg) (pts : List Pt) (v : V) (H : Hp) : Prop := ∃ t k l, v = .ref t ∧ H t = some (.tup [.ref k, .ref l]) ∧ LstP K H k pts
theorem spx_ws {K : Fg} {H : Hp} {a b : Addr} {p : Pt} {pts : List Pt} {bs : List V} (hL : LstP K H a (p :: pts)) (hb : SqL K H b bs) (h1 : pts.length ≤ bs.length + 1) (h2 : pts.length ≤ 1000) :
    SpX (spWs K) [.ref a, .ref b] H (TautA K (p :: prune p pts)) :=
  fun H1 x Q q E => ⟨a, b, p, pts, bs, rfl, hL.mono x, ex_l x hb, h1, h2, fun t k l H' e2 h3 h4 => q _ H' e2 ⟨t, k, l, rfl, h3, h4⟩⟩
def spTaut (K : Fg) : Sp := fun vs H Q _ => ∃ (va : V) (gl : Addr) (ve : V) (s e : Pt) (gates : List Gate), vs = [va, .ref gl, ve] ∧ PtA K H va s ∧ LstG K H gl gates ∧ PtA K H ve e ∧ Sm s ∧ Sm e ∧ gates.length ≤ 100 ∧
  ∀ v H', Ex H H' → TautA K (tautPts s gates e) v H' → Q v H'
section
variable {P : Program} {w : World} {K : Fg} {mg : Str → Option Value} {base : Heap}
theorem scTaut : FnScope ["start", "gates", "end", "points", "bends", "bend"] ["start", "gates", "end"] (defScope sTaut) := ⟨rfl, rfl, rfl, by decide +kernel, rfl, by decide +kernel, by decide +kernel⟩
theorem ok_taut {f : Addr} {fd : FuncData} (F : Fun K "taut" "taut" sTaut f fd) (ON : Own P w K mg base "next_bend" ["apex", "gates", "first", "end"] 4 (spNb K)) (OW : Own P w K mg base "without_straight" ["points", "bends"] 3 (spWs K)) :
    FnOk P w K mg base CX0 5 f fd ["start", "gates", "end"] (spTaut K) := by
  refine F.ok scTaut (fun vs H Q E h => ?_) (fun cdv Ar outer s_ H vs Q E hr h => ?_)
  · obtain ⟨va, gl, ve, s, e, gates, rfl, _⟩ := h
    rfl
  · obtain ⟨va, gl, ve, s, e, gates, rfl, hS, hG, he, ss, se, hlen, k⟩ := h
    have hr3 : Room 3 _ := hr.mono (by decide)
    refine ⟨_, (pss_cons (ps_set (i := 3) scTaut.nd rfl (Or.inl rfl) (pe_lst (pa_cons (pv 0) pa_nil))) (pss_cons (ps_set (i := 4) scTaut.nd rfl (Or.inl rfl) (pe_lst pa_nil)) (pss_cons (ps_set (i := 5) scTaut.nd rfl (Or.inl rfl) (pe_own ON hr (by rfl) (pa_cons (pv 0) (pa_cons (pv 1) (pa_cons pe_int (pa_cons (pv 2) pa_nil)))))) (pss_cons (ps_while PassesOwn.never (pt_cmpR op_notN (pv 5) pe_non (nomark _)) (pss_cons (ps_expr (pe_bm PySem.F.plainAttrs_list PySem.F.slot_list_append PySem.F.type_list_append mt_append (pv 3) (pa_cons (pe_ix ix_tup (pv 5) pe_int (fun _ _ => rfl)) pa_nil))) (pss_cons (ps_expr (pe_bm PySem.F.plainAttrs_list PySem.F.slot_list_append PySem.F.type_list_append mt_append (pv 4) (pa_cons (pe_ix ix_tup (pv 5) pe_int (fun _ _ => rfl)) pa_nil))) (pss_one (ps_set (i := 5) scTaut.nd rfl (Or.inl rfl) (pe_own ON hr (by rfl) (pa_cons (pe_ix ix_tup (pv 5) pe_int (fun _ _ => rfl)) (pa_cons (pv 1) (pa_cons (pe_op op_add (pe_ix ix_tup (pv 5) pe_int (fun _ _ => rfl)) pe_int) (pa_cons (pv 2) pa_nil)))))))))) (pss_cons (ps_if (pt_cmpR (op_neD hr.units) (pe_ix ix_list (pv 3) (pe_un un_neg pe_int) (fun _ _ => rfl)) (pv 2) (nomark _)) (pss_one (ps_expr (pe_bm PySem.F.plainAttrs_list PySem.F.slot_list_append PySem.F.type_list_append mt_append (pv 3) (pa_cons (pv 2) pa_nil)))) pss_nil) (pss_one (ps_ret (pe_own OW hr3 (by rfl) (pa_cons (pv 3) (pa_cons (pv 4) pa_nil)))))))))), ?_⟩
    have full_sm : ∀ f A first, ∀ b ∈ bds gates e f A first, Sm b.1 := fun f A first => bds_sm (P := Sm) (fun g hg => hG.sm g hg) f A first
    -- points = [start]; bends = []; bend = ..
    refine q_asgL (el_lst (ea_cons (ev_var rfl) ea_nil) (by show 1 ≤ 100000; decide)) fun pl H1 np x1 h1 => ?_
    refine q_asgL (el_lst ea_nil (by show 0 ≤ 100000; decide)) fun bl H2 nb_ x2 h2 => ?_
    have nbp : bl ≠ pl := fun q => by rw [q, h1] at nb_; cases nb_
    have nb0 : H bl = none := fresh_back x1 nb_
    have x02 := x1.trans x2
    refine q_asgX (evx_call (ea_cons (ev_var rfl) (ea_cons (ev_var rfl) (ea_cons ev_c (ea_cons (ev_var rfl) ea_nil)))) (spx_nb (first := 0) (hS.mono x02) (hG.mono x02) (he.mono x02) ss se (by omega) (by omega))) fun vb H3 x3 hb3 => ?_
    refine q_while (fun m σ H' => ∃ (bs1 : List Bd) (pp : List Pt) (A : Pt) (fi : Nat) (vb : V) (ps : List V) (av : V) (ls : List V), σ = [some va, some (.ref gl), some ve, some (.ref pl), some (.ref bl), some vb] ∧ Ex H H' ∧ H' pl = some (.lst (ps ++ [av])) ∧ AllA (PtA K H') ps pp ∧ PtA K H' av A ∧
        s :: bs1.map (·.1) = pp ++ [A] ∧ H' bl = some (.lst ls) ∧ ls.length = bs1.length ∧ OBdA K H' vb (nb A e none fi (gates.drop fi)) ∧ bds gates e (gates.length + 1) s 0 = bs1 ++ bds gates e m A fi ∧ gates.length - fi < m ∧ fi ≤ gates.length ∧ bs1.length + m ≤ gates.length + 1 ∧ Sm A ∧ (∀ q ∈ pp, Sm q)) (gates.length + 1)
      ⟨[], [], s, 0, vb, [], va, [], rfl, x02.trans x3, x3 _ _ (x2 _ _ h1), .nil, hS.mono (x02.trans x3), rfl, x3 _ _ h2, rfl, hb3, rfl, by omega, by omega, by show 0 + _ ≤ _; omega, ss, by intro q hq; cases hq⟩ (fun m σ H4 hW => ?_)
    obtain ⟨bs1, pp, A, fi, vb, ps, av, ls, rfl, x4, hpl, hps, hav, epp, hbl, hll, hvb, efull, hm, hfi, hsz, sA, spp⟩ := hW
    have hlp : ps.length = bs1.length := by
      have e1 := hps.len
      have e2 := congrArg List.length epp
      simp only [List.length_cons, List.length_map, List.length_append, List.length_nil] at e2
      omega
    refine ⟨_, et_test (ev_op (ev_var rfl) ev_c rv_notN), fun hb H5 x5 => ?_, fun hb H5 x5 => ?_⟩
    · rw [hvb.dec] at hb
      cases hn : nb A e none fi (gates.drop fi) with
      | none => rw [hn] at hb; cases hb
      | some b =>
        rw [hn] at hvb
        have hB : BdA K H4 vb b := hvb
        obtain ⟨i1, i2, g, hg, hbg⟩ := nb_at hn
        obtain ⟨m', rfl⟩ : ∃ m', m = m' + 1 := ⟨m - 1, by omega⟩
        have eb : bds gates e (m' + 1) A fi = b :: bds gates e m' b.1 (b.2 + 1) := by
          conv => lhs; unfold bds
          rw [hn]
        have sb1 : Sm b.1 := full_sm (m' + 1) A fi b (by rw [eb]; exact List.mem_cons_self ..)
        refine ⟨_, fun σ2 H' hN => ⟨m', Nat.lt_succ_self _, hN⟩, ?_⟩
        obtain ⟨p, hp, gp⟩ := (hB.mono x5).pt
        -- points.append(bend[0])
        refine q_app (x5 _ _ hpl) (ev_var rfl) (gp _ _ (ev_var rfl)) (by rw [List.length_append, List.length_singleton]; omega) fun H6 x6 => ?_
        have hpl6 := x6 _ _ (x5 _ _ hpl)
        have x46 : Ex H4 H6 := x5.trans x6
        have X6 : Ex H (upd H6 pl (.lst (ps ++ [av] ++ [p]))) := Evl.Ex.mut (x4.trans x46) np
        have hB6 : BdA K (upd H6 pl (.lst (ps ++ [av] ++ [p]))) vb b := (hB.mono x46).lst hpl6
        have hbl6 : (upd H6 pl (.lst (ps ++ [av] ++ [p]))) bl = some (.lst ls) := by rw [upd_ne nbp]; exact x46 _ _ hbl
        -- bends.append(bend[1])
        refine q_app hbl6 (ev_var rfl) (hB6.ix _ _ (ev_var rfl)) (by omega) fun H7 x7 => ?_
        have hbl7 := x7 _ _ hbl6
        have X7 : Ex H (upd H7 bl (.lst (ls ++ [.int (b.2 : Int)]))) := Evl.Ex.mut (X6.trans x7) nb0
        have hB7 : BdA K (upd H7 bl (.lst (ls ++ [.int (b.2 : Int)]))) vb b := (hB6.mono x7).lst hbl7
        obtain ⟨p7, hp7, gp7⟩ := hB7.pt
        have av7 : ∀ v q, PtA K H4 v q → PtA K (upd H7 bl (.lst (ls ++ [.int (b.2 : Int)]))) v q := fun v q z => ((((z.mono x46).lst hpl6).mono x7).lst hbl7)
        refine s_asgX (evx_call (ea_cons (gp7 _ _ (ev_var rfl)) (ea_cons (ev_var rfl) (ea_cons (ev_is (ev_op (hB7.ix _ _ (ev_var rfl)) ev_c rv_I0) rfl) (ea_cons (ev_var rfl) ea_nil)))) (spx_nb (first := b.2 + 1) hp7 (hG.mono X7) (he.mono X7) sb1 se (by omega) (by omega))) fun vb' H8 x8 hb8 => ?_
        refine ⟨bs1 ++ [b], pp ++ [A], b.1, b.2 + 1, vb', ps ++ [av], p, ls ++ [.int (b.2 : Int)], rfl, X7.trans x8, x8 _ _ (by rw [upd_ne (Ne.symm nbp)]; exact x7 _ _ upd_same), ((hps.imp fun _ _ z => (av7 _ _ z).mono x8).app (.one ((av7 _ _ hav).mono x8))), (((hp.mono x6).lst hpl6).mono x7).lst hbl7 |>.mono x8, ?_, x8 _ _ upd_same, by rw [List.length_append, List.length_append, hll]; rfl, hb8, ?_, by omega, by omega, by rw [List.length_append, List.length_singleton]; omega, sb1, ?_⟩
        · rw [List.map_append, ← List.cons_append, epp]
          rfl
        · rw [efull, eb, List.append_assoc]
          rfl
        · intro q hq
          rcases List.mem_append.mp hq with h | h
          · exact spp q h
          · rw [List.mem_singleton.mp h]; exact sA
    · rw [hvb.dec] at hb
      have hn : nb A e none fi (gates.drop fi) = none := by
        cases hn : nb A e none fi (gates.drop fi) with
        | none => rfl
        | some b => rw [hn] at hb; cases hb
      obtain ⟨m', rfl⟩ : ∃ m', m = m' + 1 := ⟨m - 1, by omega⟩
      have eb : bds gates e (m' + 1) A fi = [] := by
        unfold bds
        rw [hn]
      rw [eb, List.append_nil] at efull
      have epath := path_app e bs1 s pp A epp
      have ht : tautPts s gates e = s :: prune s (pathOf e s bs1) := by unfold tautPts; rw [efull]
      have x45 := x4.trans x5
      have hpl5 := x5 _ _ hpl
      have hA5 := hav.mono x5
      -- the end
      have fin : ∀ H6 zs, Ex H H6 → H6 pl = some (.lst zs) → AllA (PtA K H6) zs (s :: pathOf e s bs1) → H6 bl = some (.lst ls) → ∀ (D : L2.Ends), D.rt = Q → tRet (tCall (spWs K) [] E0 (tCons (tVar 3) (tCons (tVar 4) tNil))) D [some va, some (.ref gl), some ve, some (.ref pl), some (.ref bl), some vb] H6 := fun H6 zs x6 hz hZ hl6 D hD => by
        have hlen2 : (pathOf e s bs1).length ≤ bs1.length + 1 := by
          have e1 := congrArg List.length epath
          have e2 := congrArg List.length epp
          simp only [List.length_cons, List.length_append, List.length_map, List.length_nil] at e1 e2
          have e3 : (if A = e then ([] : List Pt) else [e]).length ≤ 1 := by split <;> simp
          omega
        refine s_retX (evx_call (ea_cons (ev_var rfl) (ea_cons (ev_var rfl) ea_nil)) (spx_ws (p := s) (pts := pathOf e s bs1) ⟨⟨zs, sq_of hz, hZ⟩, ?_⟩ (sq_of hl6) (by omega) (by omega))) fun v H7 x7 hv => ?_
        · intro q hq
          rw [epath] at hq
          rcases List.mem_append.mp hq with h | h
          · rcases List.mem_append.mp h with h | h
            · exact spp q h
            · rw [List.mem_singleton.mp h]; exact sA
          · split at h
            · cases h
            · rw [List.mem_singleton.mp h]; exact se
        · rw [hD]
          exact k v H7 (x6.trans x7) (by rw [ht]; exact hv)
      refine q_when (et_test (ev_op (ev_op (ev_var rfl) ev_unneg (rv_ixL (sq_of hpl5) (atI_last ps av))) (ev_var rfl) (rv_nePt hA5 (he.mono x45)))) (fun hb2 H6 x6 => ?_) (fun hb2 H6 x6 => ?_)
      · have hne : A ≠ e := by simpa using hb2
        rw [if_neg hne] at epath
        refine s_app (x6 _ _ hpl5) (ev_var rfl) (ev_var rfl) (by rw [List.length_append, List.length_singleton]; omega) fun H7 x7 => ?_
        have hpl7 := x7 _ _ (x6 _ _ hpl5)
        refine fin _ _ (Evl.Ex.mut ((x45.trans x6).trans x7) np) upd_same ?_ (by rw [upd_ne nbp]; exact x7 _ _ (x6 _ _ (x5 _ _ hbl))) _ rfl
        rw [epath]
        have x57 := x6.trans x7
        exact ((hps.imp fun _ _ z => ((z.mono x5).mono x57).lst hpl7).app (.one ((hA5.mono x57).lst hpl7))).app (.one ((he.mono (x45.trans x57)).lst hpl7))
      · have hne : A = e := by simpa using hb2
        rw [if_pos hne, List.append_nil] at epath
        refine fin H6 (ps ++ [av]) (x45.trans x6) (x6 _ _ hpl5) ?_ (x6 _ _ (x5 _ _ hbl)) _ rfl
        rw [epath]
        exact (hps.imp fun _ _ z => (z.mono x5).mono x6).app (.one (hA5.mono x6))
end
end FW
namespace FW
open PySem PySem.Spec PyProof.Rows L2 FP Evl
/-! ### the law's state: a list of its cells' list and a number; what else stands -/
def hd (sa ca : Addr) (H : Hp) : Hp := fun a => if a = sa ∨ a = ca then none else H a
def Stt (sa ca : Addr) (H : Hp) : Prop := ∃ (cs : List Int) (sd : Int), H sa = some (.lst [.ref ca, .int sd]) ∧ H ca = some (.lst (cs.map V.int)) ∧ (∀ c ∈ cs, 0 ≤ c) ∧ cs.length ≤ 1000 ∧ 0 ≤ sd ∧ sd < 4294967296
section
variable {sa ca : Addr} {H H' : Hp}
theorem Stt.ne (h : Stt sa ca H) : sa ≠ ca := by
  obtain ⟨cs, sd, h1, h2, _⟩ := h
  refine ne_of h1 h2 fun q => ?_
  cases cs with
  | nil => cases q
  | cons c r => cases q
theorem Stt.ex (e : Ex H H') (h : Stt sa ca H) : Stt sa ca H' := by
  obtain ⟨cs, sd, h1, h2, h3⟩ := h
  exact ⟨cs, sd, e _ _ h1, e _ _ h2, h3⟩
theorem hd_sub : Ex (hd sa ca H) H := fun a o h => by
  unfold hd at h
  split at h
  · cases h
  · exact h
theorem hd_ex (e : Ex H H') : Ex (hd sa ca H) (hd sa ca H') := fun a o h => by
  unfold hd at h ⊢
  split at h
  · cases h
  · rename_i hn
    rw [if_neg hn]
    exact e a o h
theorem hd_updS {o : HO} : hd sa ca (upd H sa o) = hd sa ca H := by
  funext a
  unfold hd
  split
  · rfl
  · rename_i hn
    rw [upd_ne fun q => hn (.inl q)]
theorem hd_updC {o : HO} : hd sa ca (upd H ca o) = hd sa ca H := by
  funext a
  unfold hd
  split
  · rfl
  · rename_i hn
    rw [upd_ne fun q => hn (.inr q)]
theorem hd_at {p : Addr} {o : HO} (h1 : p ≠ sa) (h2 : p ≠ ca) (h : H p = some o) : hd sa ca H p = some o := by
  unfold hd
  rw [if_neg (by intro q; rcases q with q | q; exact h1 q; exact h2 q)]
  exact h
/-- a new object is none of the state's -/
theorem Stt.new {p : Addr} (h : Stt sa ca H) (hp : H p = none) : p ≠ sa ∧ p ≠ ca := by
  obtain ⟨cs, sd, h1, h2, _⟩ := h
  exact ⟨fun q => (by rw [q, h1] at hp; cases hp), fun q => (by rw [q, h2] at hp; cases hp)⟩
end
theorem rc_int {H : Hp} {i : Int} : RC (fun xs H Q => (∃ i, xs = [.int i] ∧ Q (.int i) H) ∨ ∃ k, xs = [.bl k] ∧ Q (.int (if k then 1 else 0)) H) [.int i] H (.int i) := fun H1 _ Q q => .inl ⟨i, rfl, q H1 (Evl.Ex.refl H1)⟩
theorem rc_intb {H : Hp} {k : Bool} : RC (fun xs H Q => (∃ i, xs = [.int i] ∧ Q (.int i) H) ∨ ∃ k, xs = [.bl k] ∧ Q (.int (if k then 1 else 0)) H) [.bl k] H (.int (if k then 1 else 0)) := fun H1 _ Q q => .inr ⟨k, rfl, q H1 (Evl.Ex.refl H1)⟩
theorem rc_abs {H : Hp} {i : Int} : RC (fun xs H Q => ∃ i, xs = [.int i] ∧ Q (.int (if i < 0 then -i else i)) H) [.int i] H (.int (if i < 0 then -i else i)) := fun H1 _ Q q => ⟨i, rfl, q H1 (Evl.Ex.refl H1)⟩
def spDraw : Sp := fun vs H Q _ => ∃ (sa ca : Addr) (m : Int), vs = [.ref sa, .int m] ∧ Stt sa ca H ∧ 1 ≤ m ∧ m ≤ 1000000 ∧ ∀ H' d, Stt sa ca H' → Ex (hd sa ca H) (hd sa ca H') → 0 ≤ d → d < m → Q (.int d) H'
def spPick (K : Fg) : Sp := fun vs H Q _ => ∃ (sa ca r : Addr) (xs : List V), vs = [.ref sa, .ref r] ∧ Stt sa ca H ∧ (SqL K (hd sa ca H) r xs ∨ SqT K (hd sa ca H) r xs) ∧ xs ≠ [] ∧ xs.length ≤ 1000000 ∧ ∀ H' v, Stt sa ca H' → Ex (hd sa ca H) (hd sa ca H') → v ∈ xs → Q v H'
def spState (K : Fg) : Sp := fun vs H Q _ => ∃ (a : Addr) (ns : List Int), vs = [.ref a] ∧ SqL K H a (ns.map V.int) ∧ ns.length ≤ 63 ∧ ∀ H' sa ca, Ex H H' → Stt sa ca H' → Q (.ref sa) H'
section
variable {P : Program} {w : World} {K : Fg} {mg : Str → Option Value} {base : Heap}
theorem scDraw : FnScope ["_law_state_here", "_law_many", "_law_cells", "_law_value", "_law_mixed"] ["_law_state_here", "_law_many"] (defScope sDraw) := ⟨rfl, rfl, rfl, by decide +kernel, rfl, by decide +kernel, by decide +kernel⟩
theorem ok_draw {f : Addr} {fd : FuncData} (F : Fun K "_law_draw" "_law_draw" sDraw f fd) (ml : mg "len" = none) (mint : mg "int" = none) : FnOk P w K mg base CX0 1 f fd ["_law_state_here", "_law_many"] spDraw := by
  refine F.ok scDraw (fun vs H Q E h => ?_) (fun cdv Ar outer s_ H vs Q E hr h => ?_)
  · obtain ⟨sa, ca, m, rfl, _⟩ := h
    rfl
  · obtain ⟨sa, ca, m, rfl, hSt, hm1, hm2, k⟩ := h
    have hne := hSt.ne
    obtain ⟨cs0, sd, hsa, hca, hcs, hcl, hs0, hs1⟩ := hSt
    refine ⟨_, (pss_cons (ps_set (i := 2) scDraw.nd rfl (Or.inl rfl) (pe_ix ix_list (pv 0) pe_int (fun _ _ => rfl))) (pss_cons (ps_while PassesOwn.never (PW.pt (pw_and (pt_cmpR op_gt (pe_callB call_len_seq (by rfl) ml PySem.boot_len (pa_cons (pv 2) pa_nil)) pe_int (nomark _)) (pw_and1 (pt_cmpR op_eq (pe_ix ix_list (pv 2) pe_int (fun _ _ => rfl)) pe_int (nomark _))))) (pss_one (ps_expr (pe_bm PySem.F.plainAttrs_list PySem.F.slot_list_pop PySem.F.type_list_pop mt_popAt (pv 2) (pa_cons pe_int pa_nil))))) (pss_cons (ps_if (pt_cmpR op_gt (pe_callB call_len_seq (by rfl) ml PySem.boot_len (pa_cons (pv 2) pa_nil)) pe_int (nomark _)) (pss_cons (ps_set (i := 3) scDraw.nd rfl (Or.inl rfl) (pe_ix ix_list (pv 2) pe_int (fun _ _ => rfl))) (pss_cons (ps_asg (pe_op op_fdiv (pv 3) (pv 1)) (pg_sub (pv 2) pe_int set_list)) (pss_one (ps_ret (pe_op op_mod (pe_callTy call_int1 (by rfl) mint (by decide +kernel) (pa_cons (pv 3) pa_nil)) (pv 1)))))) pss_nil) (pss_cons (ps_set (i := 4) scDraw.nd rfl (Or.inl rfl) (pe_op op_mod (pe_callTy call_int1 (by rfl) mint (by decide +kernel) (pa_cons (pe_op op_add (pe_op op_mul (pe_ix ix_list (pv 0) pe_int (fun _ _ => rfl)) pe_int) pe_int) pa_nil)) pe_int)) (pss_cons (ps_asg (pv 4) (pg_sub (pv 0) pe_int set_list)) (pss_one (ps_ret (pe_op op_mod (pe_callTy call_int1 (by rfl) mint (by decide +kernel) (pa_cons (pe_op op_fdiv (pv 4) pe_int) pa_nil)) (pv 1))))))))), ?_⟩
    refine q_asg (ev_op (ev_var rfl) ev_c (rv_ixL (sq_of hsa) (atI_nat (j := 0) rfl))) fun H1 x1 => ?_
    refine q_while (fun n σ H' => ∃ cs : List Int, σ = [some (.ref sa), some (.int m), some (.ref ca), none, none] ∧ H' sa = some (.lst [.ref ca, .int sd]) ∧ H' ca = some (.lst (cs.map V.int)) ∧ (∀ c ∈ cs, 0 ≤ c) ∧ cs.length ≤ 1000 ∧ Ex (hd sa ca H) (hd sa ca H') ∧ n = cs.length) _
      ⟨cs0, rfl, x1 _ _ hsa, x1 _ _ hca, hcs, hcl, hd_ex x1, rfl⟩ (fun n σ H2 hW => ?_)
    obtain ⟨cs, rfl, h2s, h2c, hpos, hlen, xh, rfl⟩ := hW
    cases cs with
    | nil =>
      refine ⟨false, et_and (a := false) (b := true) (et_is (et_test (ev_op (ev_len (ev_var rfl) (sq_of h2c)) ev_c rv_I0)) (by decide)) (fun q => (by cases q)), (fun q => (by cases q)), fun _ H3 x3 => ?_⟩
      refine q_when (et_is (b := false) (et_test (ev_op (ev_len (ev_var rfl) (sq_of (x3 _ _ h2c))) ev_c rv_I0)) (by decide)) (fun q => by cases q) (fun _ H4 x4 => ?_)
      have x34 := x3.trans x4
      refine q_asg (ev_op (ev_cb (ea_cons (ev_op (ev_op (ev_op (ev_var rfl) ev_c (rv_ixL (sq_of (x34 _ _ h2s)) (atI_nat (j := 1) rfl))) ev_c (rv_I (.inl ⟨by omega, by omega⟩))) ev_c rv_I0) ea_nil) rc_int) ev_c (rv_I (by decide))) fun H5 x5 => ?_
      refine q_setL (j := 1) ((x34.trans x5) _ _ h2s) (ev_var rfl) (ev_var rfl) ev_c (by show 1 < 2; decide) fun H6 x6 => ?_
      have hb := Int.emod_nonneg (sd * 48271 + 12345) (show (2147483647 : Int) ≠ 0 by decide)
      have hb2 := Int.emod_lt_of_pos (sd * 48271 + 12345) (show (0 : Int) < 2147483647 by decide)
      refine s_ret (ev_op (ev_cb (ea_cons (ev_op (ev_var rfl) ev_c (rv_I ⟨by decide, by decide⟩)) ea_nil) rc_int) (ev_var rfl) (rv_I (show (0 : Int) < m by omega))) fun H7 x7 => k H7 _ ⟨[], _, x7 _ _ upd_same, x7 _ _ (by rw [upd_ne (Ne.symm hne)]; exact ((x34.trans x5).trans x6) _ _ h2c), (by intro c hc; cases hc), by decide, hb, by omega⟩ ?_ (Int.emod_nonneg _ (by omega)) (Int.emod_lt_of_pos _ (by omega))
      refine xh.trans (Evl.Ex.trans ?_ (hd_ex x7))
      rw [hd_updS]
      exact hd_ex ((x34.trans x5).trans x6)
    | cons c cs =>
      have hlt : decide ((0 : Int) < (((c :: cs).map V.int).length : Int)) = true := by simp
      have hc0 := hpos c (List.mem_cons_self ..)
      refine ⟨_, et_and (et_is (et_test (ev_op (ev_len (ev_var rfl) (sq_of h2c)) ev_c rv_I0)) hlt) (fun _ => et_test (ev_op (ev_op (ev_var rfl) ev_c (rv_ixL (sq_of h2c) (atI_nat (j := 0) rfl))) ev_c (rv_eq rfl))), fun q H3 x3 => ?_, fun q H3 x3 => ?_⟩
      · refine ⟨_, fun σ2 H' hN => ⟨cs.length, by show cs.length < cs.length + 1; omega, hN⟩, ?_⟩
        have h3c := x3 _ _ h2c
        refine ⟨.ref ca, rfl, .inl ⟨rfl, _, sq_of h3c⟩, ca, _, 0, 0, .int c, rfl, rfl, h3c, by decide, by decide, ?_, rfl, ?_⟩
        · unfold seqIndex?
          simp
        · refine ⟨cs, rfl, by rw [upd_ne hne]; exact x3 _ _ h2s, upd_same, fun z hz => hpos z (List.mem_cons_of_mem _ hz), by rw [List.length_cons] at hlen; omega, ?_, rfl⟩
          rw [hd_updC]
          exact xh.trans (hd_ex x3)
      · refine q_when (et_is (b := true) (et_test (ev_op (ev_len (ev_var rfl) (sq_of (x3 _ _ h2c))) ev_c rv_I0)) hlt) (fun _ H4 x4 => ?_) (fun q => by cases q)
        have x34 := x3.trans x4
        refine q_asg (ev_op (ev_var rfl) ev_c (rv_ixL (sq_of (x34 _ _ h2c)) (atI_nat (j := 0) rfl))) fun H5 x5 => ?_
        refine q_setL (j := 0) ((x34.trans x5) _ _ h2c) (ev_op (ev_var rfl) (ev_var rfl) (rv_I (show CDiv c m from ⟨by omega, by omega⟩))) (ev_var rfl) ev_c (by simp) fun H6 x6 => ?_
        refine s_ret (ev_op (ev_cb (ea_cons (ev_var rfl) ea_nil) rc_int) (ev_var rfl) (rv_I (show (0 : Int) < m by omega))) fun H7 x7 => k H7 _ ⟨c / m :: cs, sd, x7 _ _ (by rw [upd_ne hne]; exact ((x34.trans x5).trans x6) _ _ h2s), x7 _ _ upd_same, ?_, hlen, hs0, hs1⟩ ?_ (Int.emod_nonneg _ (by omega)) (Int.emod_lt_of_pos _ (by omega))
        · intro z hz
          rcases List.mem_cons.mp hz with rfl | hz
          · exact Int.ediv_nonneg hc0 (by omega)
          · exact hpos z (List.mem_cons_of_mem _ hz)
        · refine xh.trans (Evl.Ex.trans ?_ (hd_ex x7))
          rw [hd_updC]
          exact hd_ex ((x34.trans x5).trans x6)
theorem scPick : FnScope ["_law_state_here", "_law_row"] ["_law_state_here", "_law_row"] (defScope sPick) := ⟨rfl, rfl, rfl, by decide +kernel, rfl, by decide +kernel, by decide +kernel⟩
theorem ok_pick {f : Addr} {fd : FuncData} (F : Fun K "_law_pick" "_law_pick" sPick f fd) (OD : Own P w K mg base "_law_draw" ["_law_state_here", "_law_many"] 1 spDraw) (ml : mg "len" = none) : FnOk P w K mg base CX0 2 f fd ["_law_state_here", "_law_row"] (spPick K) := by
  refine F.ok scPick (fun vs H Q E h => ?_) (fun cdv Ar outer s_ H vs Q E hr h => ?_)
  · obtain ⟨sa, ca, r, xs, rfl, _⟩ := h
    rfl
  · obtain ⟨sa, ca, r, xs, rfl, hSt, hx, hne, hl, k⟩ := h
    have hlp := len_pos hne
    refine ⟨_, (pss_one (ps_ret (pe_ix ix_seq (pv 1) (pe_own OD hr (by rfl) (pa_cons (pv 0) (pa_cons (pe_callB call_len_seq (by rfl) ml PySem.boot_len (pa_cons (pv 1) pa_nil)) pa_nil))) (fun _ _ => rfl)))), ?_⟩
    refine ⟨.ref r, rfl, .ref sa, rfl, .ref r, rfl, r, xs, rfl, hx.imp (fun z => ex_l hd_sub z) (fun z => ex_t hd_sub z), sa, ca, _, rfl, hSt, by omega, by omega, fun H' d st xh d0 d1 => ?_⟩
    obtain ⟨v, ev⟩ : ∃ v, xs[d.toNat]? = some v := ⟨xs[d.toNat]'(by omega), List.getElem?_eq_getElem _⟩
    have ea : atI xs d = some v := by
      have := atI_nat (j := d.toNat) ev
      rw [Int.toNat_of_nonneg d0] at this
      exact this
    have hk := k H' v st xh (List.mem_of_getElem? ev)
    rcases hx with hx | hx
    · exact .inl ⟨r, xs, d, v, rfl, rfl, ex_l hd_sub (ex_l xh hx), ea, hk⟩
    · exact .inr (.inl ⟨r, xs, d, v, rfl, rfl, ex_t hd_sub (ex_t xh hx), ea, hk⟩)
theorem scState : FnScope ["_law_script", "_law_seed", "_law_cell"] ["_law_script"] (defScope sState) := ⟨rfl, rfl, rfl, by decide +kernel, rfl, by decide +kernel, by decide +kernel⟩
abbrev NState : List Str := ["_law_script", "_law_seed", "_law_cell"]
theorem ok_state {f : Addr} {fd : FuncData} (F : Fun K "_law_state" "_law_state" sState f fd) (mint : mg "int" = none) (mabs : mg "abs" = none) : FnOk P w K mg base CX0 1 f fd ["_law_script"] (spState K) := by
  refine F.ok scState (fun vs H Q E h => ?_) (fun cdv Ar outer s_ H vs Q E hr h => ?_)
  · obtain ⟨a, ns, rfl, _⟩ := h
    rfl
  · obtain ⟨a, ns, rfl, hA, hlen, k⟩ := h
    have hl : (ns.map V.int).length = ns.length := List.length_map _
    have git : ∀ {i : Nat} {x : V}, (ns.map V.int)[i]? = some x → ∃ n, x = .int n := fun {i x} e => by
      rw [List.getElem?_map] at e
      cases q : ns[i]? with
      | none => rw [q] at e; cases e
      | some n => rw [q] at e; exact ⟨n, (Option.some.inj e).symm⟩
    refine ⟨_, (pss_cons (ps_set (i := 1) scState.nd rfl (Or.inl rfl) pe_int) (pss_cons (ps_for PassesOwn.never rfl (pi_list (pv 0)) (pg_name (i := 2) scState.nd rfl (Or.inl rfl)) (pss_one (ps_set (i := 1) scState.nd rfl (Or.inl rfl) (pe_op op_mod (pe_callTy call_int1 (by rfl) mint (by decide +kernel) (pa_cons (pe_op op_add (pe_op op_mul (pv 1) pe_int) (pv 2)) pa_nil)) pe_int)))) (pss_one (ps_ret (pe_lst (pa_cons (pe_lc (own := [("_law_cell", 2)]) rfl scState.nd (pi_list (pv 0)) (blkOk_by (own := [("_law_cell", 2)]) (N := NState) (sc := defScope sState) (by decide +kernel)) (fun _ _ _ _ _ => (pg_name (i := 2) scState.nd rfl (Or.inl rfl))) (fun _ _ _ _ _ => pts_nil) (fun _ _ _ _ _ => (pe_callB call_abs (by rfl) mabs (by decide +kernel) (pa_cons (pv 2) pa_nil)))) (pa_cons (pe_op op_add (pv 1) pe_int) pa_nil))))))), ?_⟩
    refine q_asg ev_c fun H1 x1 => ?_
    refine q_forLn (ev_var rfl) (ex_l x1 hA) (fun i σ H' => ∃ (sd : Int) (y : Option V), σ = [some (.ref a), some (.int sd), y] ∧ Ex H H' ∧ 0 ≤ sd ∧ sd < 1000003) (fun H2 x2 => ⟨7, none, rfl, x1.trans x2, by decide, by decide⟩)
      (fun i σ H' _ hW => by obtain ⟨sd, y, _, x, _⟩ := hW; exact ex_l x hA) (fun i x σ H2 hi hW => ?_) (fun σ H2 hW => ?_)
    · obtain ⟨n, rfl⟩ := git hi
      obtain ⟨sd, y, rfl, x2, s0, s1⟩ := hW
      refine s_asg (ev_op (ev_cb (ea_cons (ev_op (ev_op (ev_var rfl) ev_c (rv_I (.inl ⟨by omega, by omega⟩))) (ev_var rfl) rv_I0) ea_nil) rc_int) ev_c (rv_I (by decide))) fun H3 x3 => ⟨_, _, rfl, x2.trans x3, Int.emod_nonneg _ (by decide), Int.emod_lt_of_pos _ (by decide)⟩
    · obtain ⟨sd, y, rfl, x2, s0, s1⟩ := hW
      let v : Nat → V := fun i => .int (if (ns.getD i 0) < 0 then -(ns.getD i 0) else ns.getD i 0)
      have el := el_lcL (K := K) (a := a) (xs := ns.map V.int) (tl := tVar 0) (j := 2) (vs := [2]) (σ := [some (.ref a), some (.int sd), y]) (H := H2) (t := tYes) (te := tCB (fun xs H Q => ∃ i, xs = [.int i] ∧ Q (.int (if i < 0 then -i else i)) H) (tCons (tVar 2) tNil)) (fun _ => true) v
        (ev_var rfl) (ex_l x2 hA) (by rw [hl]; omega) (fun x => rfl) (fun i x H1 _ _ => fun H2 e Q q => q H2 (Evl.Ex.refl H2)) (fun i x H1 e1 hi _ => by
          obtain ⟨n, rfl⟩ := git hi
          have en : ns.getD i 0 = n := by
            rw [List.getElem?_map] at hi
            cases q : ns[i]? with
            | none => rw [q] at hi; cases hi
            | some z =>
              rw [q] at hi
              have := V.int.inj (Option.some.inj hi)
              rw [List.getD_eq_getElem?_getD, q]
              exact this
          show Ev _ _ _ (.int (if (ns.getD i 0) < 0 then -(ns.getD i 0) else ns.getD i 0))
          rw [en]
          exact ev_cb (ea_cons (ev_var rfl) ea_nil) rc_abs)
      unfold tRet tLst
      rw [tCons]
      refine el H2 (Evl.Ex.refl H2) _ fun ca H3 nca x3 hca => ?_
      refine ⟨.int sd, rfl, _, _, rfl, rfl, by show 2 ≤ sizeLine; decide, fun sa nsa => ?_⟩
      have hne : ca ≠ sa := ne_of_none hca nsa
      refine k _ sa ca ((x2.trans x3).trans (Evl.Ex.new nsa)) ⟨(List.range (ns.map V.int).length).map fun i => if (ns.getD i 0) < 0 then -(ns.getD i 0) else ns.getD i 0, sd + 1, upd_same, ?_, ?_, ?_, by omega, by omega⟩
      · rw [upd_ne hne, hca]
        unfold given
        rw [List.filter_eq_self.mpr (by simp), List.map_map]
        rfl
      · intro c hc
        obtain ⟨i, _, rfl⟩ := List.mem_map.mp hc
        split <;> omega
      · rw [List.length_map, List.length_range, hl]; omega
end
end FW
namespace FW
open PySem PySem.Spec PyProof.Rows L2 FP Evl
/-! ### new data, put together -/
section
variable {K : Fg} {σ : L2.St} {H H' : Hp} {tx tz tl tr : TE}
theorem evx_pt {x z : Int} (hx : Ev tx σ H (.int x)) (hz : Ev tz σ H (.int z)) : EvX (tTup (tCons tx (tCons tz tNil))) σ H (fun v H' => PtA K H' v (x, z)) :=
  evx_evU (eu_tup (ea_cons hx (ea_cons hz ea_nil)) (by show 2 ≤ 100000; decide)) fun q H1 _ h => ⟨q, rfl, st_of h⟩
theorem evx_gate {p q : Pt} (h1 : EvX tl σ H (fun v H' => PtA K H' v p)) (h2 : EvX tr σ H (fun v H' => PtA K H' v q)) : EvX (tTup (tCons tl (tCons tr tNil))) σ H (fun v H' => GateA K H' v (p, q)) := fun H1 e Q k =>
  h1 H1 e _ fun v1 H2 e2 p1 => h2 H2 (e.trans e2) _ fun v2 H3 e3 p2 => ⟨by show 2 ≤ sizeLine; decide, fun a ha =>
    k _ _ ((e2.trans e3).trans (Evl.Ex.new ha)) ⟨a, v1, v2, rfl, st_of upd_same, (p1.mono e3).mono (Evl.Ex.new ha), p2.mono (Evl.Ex.new ha)⟩⟩
def RectA (K : Fg) (H : Hp) (v : V) (r : Rect) : Prop := ∃ a, v = .ref a ∧ SqT K H a [.int r.x0, .int r.z0, .int r.x1, .int r.z1]
theorem RectA.mono {v : V} {r : Rect} (e : Ex H H') (h : RectA K H v r) : RectA K H' v r := by
  obtain ⟨a, q, s⟩ := h
  exact ⟨a, q, ex_t e s⟩
theorem evx_rect {t1 t2 t3 t4 : TE} {a b c d : Int} (h1 : Ev t1 σ H (.int a)) (h2 : Ev t2 σ H (.int b)) (h3 : Ev t3 σ H (.int c)) (h4 : Ev t4 σ H (.int d)) : EvX (tTup (tCons t1 (tCons t2 (tCons t3 (tCons t4 tNil))))) σ H (fun v H' => RectA K H' v ⟨a, b, c, d⟩) :=
  evx_evU (eu_tup (ea_cons h1 (ea_cons h2 (ea_cons h3 (ea_cons h4 ea_nil)))) (by show 4 ≤ 100000; decide)) fun q H1 _ h => ⟨q, rfl, st_of h⟩
theorem evx_two {P1 P2 : V → Hp → Prop} (m1 : ∀ v H H', Ex H H' → P1 v H → P1 v H') (m2 : ∀ v H H', Ex H H' → P2 v H → P2 v H') (h1 : EvX tl σ H P1) (h2 : EvX tr σ H P2) :
    EvX (tLst (tCons tl (tCons tr tNil))) σ H (fun v H' => ∃ l v1 v2, v = .ref l ∧ H' l = some (.lst [v1, v2]) ∧ P1 v1 H' ∧ P2 v2 H') := fun H1 e Q k =>
  h1 H1 e _ fun v1 H2 e2 p1 => h2 H2 (e.trans e2) _ fun v2 H3 e3 p2 => ⟨by show 2 ≤ sizeLine; decide, fun a ha =>
    k _ _ ((e2.trans e3).trans (Evl.Ex.new ha)) ⟨a, v1, v2, rfl, upd_same, m1 _ _ _ (e3.trans (Evl.Ex.new ha)) p1, m2 _ _ _ (Evl.Ex.new ha) p2⟩⟩
end
/-! ### what is read of tuples lies outside the state -/
section
variable {K : Fg} {sa ca : Addr} {H H' : Hp} {v : V}
theorem sqT_hd {a : Addr} {xs : List V} (st : Stt sa ca H) (h : SqT K H a xs) : SqT K (hd sa ca H) a xs := by
  obtain ⟨cs, sd, h1, h2, _⟩ := st
  rcases h with (h | ⟨ob, h⟩) | h
  · exact .inl (.inl (hd_at (ne_of h h1 (by intro q; cases q)) (ne_of h h2 (by intro q; cases q)) h))
  · exact .inl (.inr ⟨ob, hd_at (ne_of h h1 (by intro q; cases q)) (ne_of h h2 (by intro q; cases q)) h⟩)
  · exact .inr h
theorem PtA.hd {p : Pt} (st : Stt sa ca H) (h : PtA K H v p) : PtA K (hd sa ca H) v p := by
  obtain ⟨a, r, s⟩ := h
  exact ⟨a, r, sqT_hd st s⟩
theorem GateA.hd {g : Gate} (st : Stt sa ca H) (h : GateA K H v g) : GateA K (hd sa ca H) v g := by
  obtain ⟨a, l, r, h1, s, h2, h3⟩ := h
  exact ⟨a, l, r, h1, sqT_hd st s, h2.hd st, h3.hd st⟩
theorem RectA.hd {r : Rect} (st : Stt sa ca H) (h : RectA K H v r) : RectA K (hd sa ca H) v r := by
  obtain ⟨a, q, s⟩ := h
  exact ⟨a, q, sqT_hd st s⟩
def UsedA (K : Fg) (H : Hp) (v : V) : Option (Int × Int × Int) → Prop
  | none => v = .non
  | some (s, a, b) => ∃ p, v = .ref p ∧ SqT K H p [.int s, .int a, .int b]
theorem UsedA.mono : ∀ {u : Option (Int × Int × Int)}, Ex H H' → UsedA K H v u → UsedA K H' v u
  | none, _, h => h
  | some (s, a, b), e, h => by
    obtain ⟨p, q, z⟩ := h
    exact ⟨p, q, ex_t e z⟩
theorem UsedA.dec : ∀ {u : Option (Int × Int × Int)}, UsedA K H v u → decide (v = .non) = u.isNone
  | none, h => by
    have h : v = .non := h
    subst h; rfl
  | some (s, a, b), h => by
    obtain ⟨p, rfl, _⟩ := h
    rfl
def FreeR (u : Option (Int × Int × Int)) (s a b : Int) : Prop := ∀ su ua ub, u = some (su, ua, ub) → su = s → ub ≤ a ∨ b ≤ ua
end
def Bdd (r : Rect) : Prop := -10000 ≤ r.x0 ∧ r.x1 ≤ 10000 ∧ -10000 ≤ r.z0 ∧ r.z1 ≤ 10000
def SideR (K : Fg) (r : Rect) (s : Int) (u : Option (Int × Int × Int)) (v : V) (H : Hp) : Prop := v = .non ∨ ∃ (a b : Int) (p : Addr), v = .ref p ∧ SqT K H p [.int a, .int b] ∧ OnS r s a b ∧ FreeR u s a b
def spSide (K : Fg) : Sp := fun vs H Q _ => ∃ (sa ca : Addr) (vr vu : V) (r : Rect) (s : Int) (u : Option (Int × Int × Int)), vs = [.ref sa, vr, .int s, vu] ∧ Stt sa ca H ∧ RectA K (hd sa ca H) vr r ∧ UsedA K (hd sa ca H) vu u ∧ Wide r ∧ Bdd r ∧ 0 ≤ s ∧ s ≤ 3 ∧
  ∀ H' v, Stt sa ca H' → Ex (hd sa ca H) (hd sa ca H') → SideR K r s u v (hd sa ca H') → Q v H'
/-- the rectangle behind a portal -/
def NextR (r : Rect) (s a b : Int) (r' : Rect) : Prop := ∃ d1 d2 d3 : Int, 0 ≤ d1 ∧ d1 < 6 ∧ 0 ≤ d2 ∧ d2 < 6 ∧ 0 ≤ d3 ∧ d3 < 8 ∧
  r' = if s = 0 then ⟨r.x1, a - d1, r.x1 + (3 + d3), b + d2⟩ else if s = 1 then ⟨a - d1, r.z1, b + d2, r.z1 + (3 + d3)⟩ else if s = 2 then ⟨r.x0 - (3 + d3), a - d1, r.x0, b + d2⟩ else ⟨a - d1, r.z0 - (3 + d3), b + d2, r.z0⟩
def spNext (K : Fg) : Sp := fun vs H Q _ => ∃ (sa ca : Addr) (vr : V) (r : Rect) (s a b : Int), vs = [.ref sa, vr, .int s, .int a, .int b] ∧ Stt sa ca H ∧ RectA K (hd sa ca H) vr r ∧ 0 ≤ s ∧ s ≤ 3 ∧
  ∀ H' l v1 v2 r', Stt sa ca H' → Ex (hd sa ca H) (hd sa ca H') → H' l = some (.lst [v1, v2]) → GateA K (hd sa ca H') v1 (gateOn r s a b) → RectA K (hd sa ca H') v2 r' → NextR r s a b r' → Q (.ref l) H'
def OGateA (K : Fg) (H : Hp) (v : V) : Option Gate → Prop
  | none => v = .non
  | some g => GateA K H v g
def spPoint (K : Fg) : Sp := fun vs H Q _ => ∃ (sa ca : Addr) (vr vg : V) (r : Rect) (g : Option Gate), vs = [.ref sa, vr, vg] ∧ Stt sa ca H ∧ RectA K (hd sa ca H) vr r ∧ OGateA K (hd sa ca H) vg g ∧ Wide r ∧ Bdd r ∧ (∀ x, g = some x → InR r x.1 ∧ InR r x.2) ∧
  ∀ H' v p, Stt sa ca H' → Ex (hd sa ca H) (hd sa ca H') → PtA K (hd sa ca H') v p → InR r p → Q v H'
section
variable {P : Program} {w : World} {K : Fg} {mg : Str → Option Value} {base : Heap}
theorem scSide : FnScope ["_law_state_here", "_law_rect", "_law_side_here", "_law_used", "_law_x0", "_law_z0", "_law_x1", "_law_z1", "_law_low", "_law_high", "_law_a", "_law_b"] ["_law_state_here", "_law_rect", "_law_side_here", "_law_used"] (defScope sSide) := ⟨rfl, rfl, rfl, by decide +kernel, rfl, by decide +kernel, by decide +kernel⟩
theorem ok_side {f : Addr} {fd : FuncData} (F : Fun K "_law_side" "_law_side" sSide f fd) (OD : Own P w K mg base "_law_draw" ["_law_state_here", "_law_many"] 1 spDraw) (mint : mg "int" = none) :
    FnOk P w K mg base CX0 2 f fd ["_law_state_here", "_law_rect", "_law_side_here", "_law_used"] (spSide K) := by
  refine F.ok scSide (fun vs H Q E h => ?_) (fun cdv Ar outer s_ H vs Q E hr h => ?_)
  · obtain ⟨sa, ca, vr, vu, r, s, u, rfl, _⟩ := h
    rfl
  · obtain ⟨sa, ca, vr, vu, r, s, u, rfl, hSt, hR, hU, hw, hbd, hs0, hs3, k⟩ := h
    obtain ⟨pr, rfl, hT⟩ := hR
    obtain ⟨wx, wz⟩ := hw
    obtain ⟨bd1, bd2, bd3, bd4⟩ := hbd
    refine ⟨_, (pss_cons (ps_asg (pv 1) (pg_tup rfl (pgs_cons (pg_name (i := 4) scSide.nd rfl (Or.inl rfl)) (pgs_cons (pg_name (i := 5) scSide.nd rfl (Or.inl rfl)) (pgs_cons (pg_name (i := 6) scSide.nd rfl (Or.inl rfl)) (pgs_cons (pg_name (i := 7) scSide.nd rfl (Or.inl rfl)) pgs_nil)))))) (pss_cons (ps_asg (pe_ix ix_list (pe_lst (pa_cons (pe_tup (pa_cons (pv 5) (pa_cons (pv 7) pa_nil))) (pa_cons (pe_tup (pa_cons (pv 4) (pa_cons (pv 6) pa_nil))) pa_nil))) (pe_op op_mod (pe_callTy call_int1 (by rfl) mint (by decide +kernel) (pa_cons (pv 2) pa_nil)) pe_int) (fun _ _ => rfl)) (pg_tup rfl (pgs_cons (pg_name (i := 8) scSide.nd rfl (Or.inl rfl)) (pgs_cons (pg_name (i := 9) scSide.nd rfl (Or.inl rfl)) pgs_nil)))) (pss_cons (ps_set (i := 10) scSide.nd rfl (Or.inl rfl) (pe_op op_add (pv 8) (pe_own OD hr (by rfl) (pa_cons (pv 0) (pa_cons (pe_op op_sub (pe_op op_sub (pv 9) (pv 8)) pe_int) pa_nil))))) (pss_cons (ps_set (i := 11) scSide.nd rfl (Or.inl rfl) (pe_op op_add (pe_op op_add (pv 10) pe_int) (pe_own OD hr (by rfl) (pa_cons (pv 0) (pa_cons (pe_op op_sub (pe_op op_sub (pv 9) (pv 10)) pe_int) pa_nil))))) (pss_cons (ps_if (PW.pt (pw_and (pt_cmpR op_notN (pv 3) pe_non (nomark _)) (pw_and (pt_cmpR op_eq (pe_ix ix_tup (pv 3) pe_int (fun _ _ => rfl)) (pv 2) (nomark _)) (pw_and (pt_cmpR op_lt (pv 10) (pe_ix ix_tup (pv 3) pe_int (fun _ _ => rfl)) (nomark _)) (pw_and1 (pt_cmpR op_lt (pe_ix ix_tup (pv 3) pe_int (fun _ _ => rfl)) (pv 11) (nomark _))))))) (pss_one (ps_ret pe_non)) pss_nil) (pss_one (ps_ret (pe_tup (pa_cons (pv 10) (pa_cons (pv 11) pa_nil)))))))))), ?_⟩
    -- x0, z0, x1, z1 = rect
    refine ⟨_, rfl, pr, _, rfl, ex_t hd_sub hT, rfl, _, _, rfl, _, _, rfl, _, _, rfl, _, _, rfl, rfl, ?_⟩
    -- low, high = ..
    refine ⟨_, rfl, _, rfl, (by show 2 ≤ sizeLine; decide), fun p1 n1 => ⟨_, rfl, _, rfl, (by show 2 ≤ sizeLine; decide), fun p2 n2 => ⟨(by show 2 ≤ sizeLine; decide), fun l nl => ?_⟩⟩⟩
    have e1 : Ex (upd H p1 (.tup [.int r.z0, .int r.z1])) (upd (upd (upd H p1 (.tup [.int r.z0, .int r.z1])) p2 (.tup [.int r.x0, .int r.x1])) l (.lst [.ref p1, .ref p2])) := (Evl.Ex.new n2).trans (Evl.Ex.new nl)
    have e0 := (Evl.Ex.new (o := .tup [.int r.z0, .int r.z1]) n1).trans e1
    refine ⟨_, rfl, .inl ⟨s, rfl, s, 2, rfl, rfl, (show (0 : Int) < 2 by decide), ?_⟩⟩
    have pick : ∃ q, atI [V.ref p1, V.ref p2] (s % 2) = some (.ref q) ∧ (upd (upd (upd H p1 (.tup [.int r.z0, .int r.z1])) p2 (.tup [.int r.x0, .int r.x1])) l (.lst [.ref p1, .ref p2])) q = some (.tup [.int (loS r s), .int (hiS r s)]) := by
      by_cases h2 : s % 2 = 0
      · refine ⟨p1, by rw [h2]; rfl, ?_⟩
        unfold loS hiS
        rw [if_pos h2, if_pos h2]
        exact e1 _ _ upd_same
      · refine ⟨p2, by rw [show s % 2 = 1 by omega]; rfl, ?_⟩
        unfold loS hiS
        rw [if_neg h2, if_neg h2]
        exact Evl.Ex.new nl _ _ upd_same
    obtain ⟨q, hq1, hq2⟩ := pick
    refine ⟨l, _, _, _, rfl, rfl, sq_of upd_same, hq1, q, _, rfl, st_of hq2, rfl, _, _, rfl, _, _, rfl, rfl, ?_⟩
    have hlh : loS r s + 3 ≤ hiS r s ∧ -10000 ≤ loS r s ∧ hiS r s ≤ 10000 := by
      unfold loS hiS
      split <;> omega
    -- a = low + draw(..)
    have st1 := hSt.ex e0
    refine ⟨_, rfl, _, rfl, _, rfl, _, rfl, _, _, rfl, rfl, _, _, rfl, rfl, sa, ca, _, rfl, st1, by omega, by omega, fun H2 d st2 x2 d0 d1 => ⟨_, _, rfl, rfl, ?_⟩⟩
    -- b = a + 3 + draw(..)
    refine ⟨_, rfl, _, _, rfl, rfl, _, rfl, _, rfl, _, rfl, _, _, rfl, rfl, _, _, rfl, rfl, sa, ca, _, rfl, st2, by omega, by omega, fun H3 d' st3 x3 d0' d1' => ⟨_, _, rfl, rfl, ?_⟩⟩
    have X3 : Ex (hd sa ca H) (hd sa ca H3) := ((hd_ex e0).trans x2).trans x3
    have hU3 : UsedA K H3 vu u := (hU.mono X3).mono hd_sub
    have on : OnS r s (loS r s + d) (loS r s + d + 3 + d') := ⟨hs0, hs3, by omega, by omega, by omega⟩
    have fin : ∀ H4, Ex H3 H4 → FreeR u s (loS r s + d) (loS r s + d + 3 + d') → ∀ (D : L2.Ends), D.rt = Q → tRet (tTup (tCons (tVar 10) (tCons (tVar 11) tNil))) D [some (.ref sa), some (.ref pr), some (.int s), some vu, some (.int r.x0), some (.int r.z0), some (.int r.x1), some (.int r.z1), some (.int (loS r s)), some (.int (hiS r s)), some (.int (loS r s + d)), some (.int (loS r s + d + 3 + d'))] H4 := fun H4 x4 hf D hD => by
      refine s_retU (eu_tup (ea_cons (ev_var rfl) (ea_cons (ev_var rfl) ea_nil)) (by show 2 ≤ 100000; decide)) fun p H5 np x5 h5 => ?_
      rw [hD]
      have st5 := st3.ex (x4.trans x5)
      have hn := (st3.ex x4).new np
      exact k H5 _ st5 (X3.trans (hd_ex (x4.trans x5))) (.inr ⟨_, _, p, rfl, st_of (hd_at hn.1 hn.2 h5), on, hf⟩)
    cases u with
    | none =>
      have hv : vu = .non := hU
      subst hv
      refine q_when (b := false) (et_and (a := false) (b := false) (et_is (et_test (ev_op (ev_var rfl) ev_c rv_notN)) rfl) (fun q => by cases q)) (fun q => by cases q) (fun _ H4 x4 => ?_)
      exact fin H4 x4 (by intro _ _ _ q; cases q) _ rfl
    | some z =>
      obtain ⟨su, ua, ub⟩ := z
      obtain ⟨pu, rfl, hp⟩ := hU3
      refine q_when (et_and (et_is (b := true) (et_test (ev_op (ev_var rfl) ev_c rv_notN)) rfl) (fun _ => et_and (et_test (ev_op (ev_op (ev_var rfl) ev_c (rv_ixT hp (atI_nat (j := 0) rfl))) (ev_var rfl) (rv_eq rfl)))
        (fun _ => et_and (et_test (ev_op (ev_var rfl) (ev_op (ev_var rfl) ev_c (rv_ixT hp (atI_nat (j := 2) rfl))) rv_I0)) (fun _ => et_test (ev_op (ev_op (ev_var rfl) ev_c (rv_ixT hp (atI_nat (j := 1) rfl))) (ev_var rfl) rv_I0))))) (fun hb H4 x4 => ?_) (fun hb H4 x4 => ?_)
      · exact s_ret ev_c fun H5 x5 => k H5 _ (st3.ex (x4.trans x5)) (X3.trans (hd_ex (x4.trans x5))) (.inl rfl)
      · refine fin H4 x4 ?_ _ rfl
        intro su' ua' ub' e he
        cases e
        simp only [Bool.true_and, Bool.and_eq_false_iff, decide_eq_false_iff_not] at hb
        rcases hb with hb | hb | hb
        · exact absurd (by rw [he]) hb
        · left; omega
        · right; omega
theorem scNext : FnScope ["_law_state_here", "_law_rect", "_law_side_here", "_law_a", "_law_b", "_law_x0", "_law_z0", "_law_x1", "_law_z1", "_law_low", "_law_high", "_law_deep"] ["_law_state_here", "_law_rect", "_law_side_here", "_law_a", "_law_b"] (defScope sNext) := ⟨rfl, rfl, rfl, by decide +kernel, rfl, by decide +kernel, by decide +kernel⟩
theorem ok_next {f : Addr} {fd : FuncData} (F : Fun K "_law_next" "_law_next" sNext f fd) (OD : Own P w K mg base "_law_draw" ["_law_state_here", "_law_many"] 1 spDraw) :
    FnOk P w K mg base CX0 2 f fd ["_law_state_here", "_law_rect", "_law_side_here", "_law_a", "_law_b"] (spNext K) := by
  refine F.ok scNext (fun vs H Q E h => ?_) (fun cdv Ar outer s_ H vs Q E hr h => ?_)
  · obtain ⟨sa, ca, vr, r, s, a, b, rfl, _⟩ := h
    rfl
  · obtain ⟨sa, ca, vr, r, s, a, b, rfl, hSt, hR, hs0, hs3, k⟩ := h
    obtain ⟨pr, rfl, hT⟩ := hR
    refine ⟨_, (pss_cons (ps_asg (pv 1) (pg_tup rfl (pgs_cons (pg_name (i := 5) scNext.nd rfl (Or.inl rfl)) (pgs_cons (pg_name (i := 6) scNext.nd rfl (Or.inl rfl)) (pgs_cons (pg_name (i := 7) scNext.nd rfl (Or.inl rfl)) (pgs_cons (pg_name (i := 8) scNext.nd rfl (Or.inl rfl)) pgs_nil)))))) (pss_cons (ps_set (i := 9) scNext.nd rfl (Or.inl rfl) (pe_op op_sub (pv 3) (pe_own OD hr (by rfl) (pa_cons (pv 0) (pa_cons pe_int pa_nil))))) (pss_cons (ps_set (i := 10) scNext.nd rfl (Or.inl rfl) (pe_op op_add (pv 4) (pe_own OD hr (by rfl) (pa_cons (pv 0) (pa_cons pe_int pa_nil))))) (pss_cons (ps_set (i := 11) scNext.nd rfl (Or.inl rfl) (pe_op op_add pe_int (pe_own OD hr (by rfl) (pa_cons (pv 0) (pa_cons pe_int pa_nil))))) (pss_cons (ps_if (pt_cmpR op_eq (pv 2) pe_int (nomark _)) (pss_one (ps_ret (pe_lst (pa_cons (pe_tup (pa_cons (pe_tup (pa_cons (pv 7) (pa_cons (pe_op op_add (pv 3) pe_int) pa_nil))) (pa_cons (pe_tup (pa_cons (pv 7) (pa_cons (pe_op op_sub (pv 4) pe_int) pa_nil))) pa_nil))) (pa_cons (pe_tup (pa_cons (pv 7) (pa_cons (pv 9) (pa_cons (pe_op op_add (pv 7) (pv 11)) (pa_cons (pv 10) pa_nil))))) pa_nil))))) pss_nil) (pss_cons (ps_if (pt_cmpR op_eq (pv 2) pe_int (nomark _)) (pss_one (ps_ret (pe_lst (pa_cons (pe_tup (pa_cons (pe_tup (pa_cons (pe_op op_sub (pv 4) pe_int) (pa_cons (pv 8) pa_nil))) (pa_cons (pe_tup (pa_cons (pe_op op_add (pv 3) pe_int) (pa_cons (pv 8) pa_nil))) pa_nil))) (pa_cons (pe_tup (pa_cons (pv 9) (pa_cons (pv 8) (pa_cons (pv 10) (pa_cons (pe_op op_add (pv 8) (pv 11)) pa_nil))))) pa_nil))))) pss_nil) (pss_cons (ps_if (pt_cmpR op_eq (pv 2) pe_int (nomark _)) (pss_one (ps_ret (pe_lst (pa_cons (pe_tup (pa_cons (pe_tup (pa_cons (pv 5) (pa_cons (pe_op op_sub (pv 4) pe_int) pa_nil))) (pa_cons (pe_tup (pa_cons (pv 5) (pa_cons (pe_op op_add (pv 3) pe_int) pa_nil))) pa_nil))) (pa_cons (pe_tup (pa_cons (pe_op op_sub (pv 5) (pv 11)) (pa_cons (pv 9) (pa_cons (pv 5) (pa_cons (pv 10) pa_nil))))) pa_nil))))) pss_nil) (pss_one (ps_ret (pe_lst (pa_cons (pe_tup (pa_cons (pe_tup (pa_cons (pe_op op_add (pv 3) pe_int) (pa_cons (pv 6) pa_nil))) (pa_cons (pe_tup (pa_cons (pe_op op_sub (pv 4) pe_int) (pa_cons (pv 6) pa_nil))) pa_nil))) (pa_cons (pe_tup (pa_cons (pv 9) (pa_cons (pe_op op_sub (pv 6) (pv 11)) (pa_cons (pv 10) (pa_cons (pv 6) pa_nil))))) pa_nil)))))))))))), ?_⟩
    refine ⟨_, rfl, pr, _, rfl, ex_t hd_sub hT, rfl, _, _, rfl, _, _, rfl, _, _, rfl, _, _, rfl, rfl, ?_⟩
    refine ⟨_, rfl, _, rfl, sa, ca, _, rfl, hSt, by decide, by decide, fun H1 d1 st1 x1 d10 d11 => ⟨_, _, rfl, rfl, ?_⟩⟩
    refine ⟨_, rfl, _, rfl, sa, ca, _, rfl, st1, by decide, by decide, fun H2 d2 st2 x2 d20 d21 => ⟨_, _, rfl, rfl, ?_⟩⟩
    refine ⟨_, rfl, sa, ca, _, rfl, st2, by decide, by decide, fun H3 d3 st3 x3 d30 d31 => ⟨_, _, rfl, rfl, ?_⟩⟩
    have X3 : Ex (hd sa ca H) (hd sa ca H3) := (x1.trans x2).trans x3
    have fin : ∀ H4 g r', Ex H3 H4 → g = gateOn r s a b → NextR r s a b r' → ∀ v H5, Ex H4 H5 → (∃ l v1 v2, v = .ref l ∧ H5 l = some (.lst [v1, v2]) ∧ GateA K H5 v1 g ∧ RectA K H5 v2 r') → Q v H5 := fun H4 g r' x4 eg hr' v H5 x5 h => by
      obtain ⟨l, v1, v2, rfl, hl, hg, hr2⟩ := h
      have st5 := st3.ex (x4.trans x5)
      exact k H5 l v1 v2 r' st5 (X3.trans (hd_ex (x4.trans x5))) hl (eg ▸ hg.hd st5) (hr2.hd st5) hr'
    have gm : ∀ g v H H', Ex H H' → GateA K H v g → GateA K H' v g := fun g v H H' e h => h.mono e
    have rm : ∀ r v H H', Ex H H' → RectA K H v r → RectA K H' v r := fun r v H H' e h => h.mono e
    have nx : ∀ r', (r' = if s = 0 then ⟨r.x1, a - d1, r.x1 + (3 + d3), b + d2⟩ else if s = 1 then ⟨a - d1, r.z1, b + d2, r.z1 + (3 + d3)⟩ else if s = 2 then ⟨r.x0 - (3 + d3), a - d1, r.x0, b + d2⟩ else ⟨a - d1, r.z0 - (3 + d3), b + d2, r.z0⟩) → NextR r s a b r' := fun r' e => ⟨d1, d2, d3, d10, d11, d20, d21, d30, d31, e⟩
    refine q_when (et_test (ev_op (ev_var rfl) ev_c (rv_eq rfl))) (fun hb H4 x4 => ?_) (fun hb H4 x4 => ?_)
    · have e0 : s = 0 := by simpa using hb
      refine s_retX (evx_two (gm _) (rm _) (evx_gate (evx_pt (ev_var rfl) (ev_op (ev_var rfl) ev_c rv_I0)) (evx_pt (ev_var rfl) (ev_op (ev_var rfl) ev_c rv_I0))) (evx_rect (ev_var rfl) (ev_var rfl) (ev_op (ev_var rfl) (ev_var rfl) rv_I0) (ev_var rfl))) (fin H4 _ _ x4 ?_ (nx _ ?_))
      · rw [e0]; rfl
      · rw [if_pos e0]
    · have n0 : ¬ s = 0 := by simpa using hb
      refine q_when (et_test (ev_op (ev_var rfl) ev_c (rv_eq rfl))) (fun hb2 H5 x5 => ?_) (fun hb2 H5 x5 => ?_)
      · have e1 : s = 1 := by simpa using hb2
        refine s_retX (evx_two (gm _) (rm _) (evx_gate (evx_pt (ev_op (ev_var rfl) ev_c rv_I0) (ev_var rfl)) (evx_pt (ev_op (ev_var rfl) ev_c rv_I0) (ev_var rfl))) (evx_rect (ev_var rfl) (ev_var rfl) (ev_var rfl) (ev_op (ev_var rfl) (ev_var rfl) rv_I0))) (fin H5 _ _ (x4.trans x5) ?_ (nx _ ?_))
        · rw [e1]; rfl
        · rw [if_neg n0, if_pos e1]
      · have n1 : ¬ s = 1 := by simpa using hb2
        refine q_when (et_test (ev_op (ev_var rfl) ev_c (rv_eq rfl))) (fun hb3 H6 x6 => ?_) (fun hb3 H6 x6 => ?_)
        · have e2 : s = 2 := by simpa using hb3
          refine s_retX (evx_two (gm _) (rm _) (evx_gate (evx_pt (ev_var rfl) (ev_op (ev_var rfl) ev_c rv_I0)) (evx_pt (ev_var rfl) (ev_op (ev_var rfl) ev_c rv_I0))) (evx_rect (ev_op (ev_var rfl) (ev_var rfl) rv_I0) (ev_var rfl) (ev_var rfl) (ev_var rfl))) (fin H6 _ _ ((x4.trans x5).trans x6) ?_ (nx _ ?_))
          · rw [e2]; rfl
          · rw [if_neg n0, if_neg n1, if_pos e2]
        · have n2 : ¬ s = 2 := by simpa using hb3
          refine s_retX (evx_two (gm _) (rm _) (evx_gate (evx_pt (ev_op (ev_var rfl) ev_c rv_I0) (ev_var rfl)) (evx_pt (ev_op (ev_var rfl) ev_c rv_I0) (ev_var rfl))) (evx_rect (ev_var rfl) (ev_op (ev_var rfl) (ev_var rfl) rv_I0) (ev_var rfl) (ev_var rfl))) (fin H6 _ _ ((x4.trans x5).trans x6) ?_ (nx _ ?_))
          · unfold gateOn
            rw [if_neg n0, if_neg n1, if_neg n2]
          · rw [if_neg n0, if_neg n1, if_neg n2]
theorem scPoint : FnScope ["_law_state_here", "_law_rect", "_law_ends", "_law_x0", "_law_z0", "_law_x1", "_law_z1", "_law_kind", "_law_x", "_law_z"] ["_law_state_here", "_law_rect", "_law_ends"] (defScope sPoint) := ⟨rfl, rfl, rfl, by decide +kernel, rfl, by decide +kernel, by decide +kernel⟩
theorem ok_point {f : Addr} {fd : FuncData} (F : Fun K "_law_point" "_law_point" sPoint f fd) (OD : Own P w K mg base "_law_draw" ["_law_state_here", "_law_many"] 1 spDraw) (OP : Own P w K mg base "_law_pick" ["_law_state_here", "_law_row"] 2 (spPick K)) :
    FnOk P w K mg base CX0 3 f fd ["_law_state_here", "_law_rect", "_law_ends"] (spPoint K) := by
  refine F.ok scPoint (fun vs H Q E h => ?_) (fun cdv Ar outer s_ H vs Q E hr h => ?_)
  · obtain ⟨sa, ca, vr, vg, r, g, rfl, _⟩ := h
    rfl
  · obtain ⟨sa, ca, vr, vg, r, g, rfl, hSt, hR, hG, hw, hbd, hin, k⟩ := h
    have hr1 : Room 1 _ := hr.mono (by decide)
    have hr2 : Room 2 _ := hr
    obtain ⟨pr, rfl, hT⟩ := hR
    obtain ⟨wx, wz⟩ := hw
    obtain ⟨bd1, bd2, bd3, bd4⟩ := hbd
    refine ⟨_, (pss_cons (ps_asg (pv 1) (pg_tup rfl (pgs_cons (pg_name (i := 3) scPoint.nd rfl (Or.inl rfl)) (pgs_cons (pg_name (i := 4) scPoint.nd rfl (Or.inl rfl)) (pgs_cons (pg_name (i := 5) scPoint.nd rfl (Or.inl rfl)) (pgs_cons (pg_name (i := 6) scPoint.nd rfl (Or.inl rfl)) pgs_nil)))))) (pss_cons (ps_set (i := 7) scPoint.nd rfl (Or.inl rfl) (pe_own OD hr1 (by rfl) (pa_cons (pv 0) (pa_cons pe_int pa_nil)))) (pss_cons (ps_if (PW.pt (pw_and (pt_cmpR op_eq (pv 7) pe_int (nomark _)) (pw_and1 (pt_cmpR op_notN (pv 2) pe_non (nomark _))))) (pss_one (ps_ret (pe_own OP hr2 (by rfl) (pa_cons (pv 0) (pa_cons (pv 2) pa_nil))))) pss_nil) (pss_cons (ps_set (i := 8) scPoint.nd rfl (Or.inl rfl) (pe_own OP hr2 (by rfl) (pa_cons (pv 0) (pa_cons (pe_lst (pa_cons (pv 3) (pa_cons (pv 5) (pa_cons (pe_op op_add (pv 3) (pe_own OD hr1 (by rfl) (pa_cons (pv 0) (pa_cons (pe_op op_add (pe_op op_sub (pv 5) (pv 3)) pe_int) pa_nil)))) pa_nil)))) pa_nil)))) (pss_cons (ps_set (i := 9) scPoint.nd rfl (Or.inl rfl) (pe_own OP hr2 (by rfl) (pa_cons (pv 0) (pa_cons (pe_lst (pa_cons (pv 4) (pa_cons (pv 6) (pa_cons (pe_op op_add (pv 4) (pe_own OD hr1 (by rfl) (pa_cons (pv 0) (pa_cons (pe_op op_add (pe_op op_sub (pv 6) (pv 4)) pe_int) pa_nil)))) pa_nil)))) pa_nil)))) (pss_cons (ps_if (pt_cmpR op_lt (pv 7) pe_int (nomark _)) (pss_one (ps_ret (pe_tup (pa_cons (pe_op op_add (pv 3) (pe_own OD hr1 (by rfl) (pa_cons (pv 0) (pa_cons (pe_op op_add (pe_op op_sub (pv 5) (pv 3)) pe_int) pa_nil)))) (pa_cons (pe_op op_add (pv 4) (pe_own OD hr1 (by rfl) (pa_cons (pv 0) (pa_cons (pe_op op_add (pe_op op_sub (pv 6) (pv 4)) pe_int) pa_nil)))) pa_nil))))) pss_nil) (pss_one (ps_ret (pe_tup (pa_cons (pv 8) (pa_cons (pv 9) pa_nil))))))))))), ?_⟩
    refine ⟨_, rfl, pr, _, rfl, ex_t hd_sub hT, rfl, _, _, rfl, _, _, rfl, _, _, rfl, _, _, rfl, rfl, ?_⟩
    refine ⟨_, rfl, sa, ca, _, rfl, hSt, by decide, by decide, fun H1 kd st1 x1 d10 d11 => ?_⟩
    -- what stands behind the if
    have rest : ∀ H2, Stt sa ca H2 → Ex (hd sa ca H) (hd sa ca H2) → ∀ (D : L2.Ends), D.rt = Q → ∀ t, t = tSeq (tAsg (tCall (spPick K) [] E0 (tCons (tVar 0) (tCons (tLst (tCons (tVar 3) (tCons (tVar 5) (tCons (tOp (rI0 fun i j => .int (i + j)) (tVar 3) (tCall spDraw [] E0 (tCons (tVar 0) (tCons (tOp (rI0 fun i j => .int (i + j)) (tOp (rI0 fun i j => .int (i - j)) (tVar 5) (tVar 3)) (tC (.int 1))) tNil)))) tNil)))) tNil))) (gName 8))
        (tSeq (tAsg (tCall (spPick K) [] E0 (tCons (tVar 0) (tCons (tLst (tCons (tVar 4) (tCons (tVar 6) (tCons (tOp (rI0 fun i j => .int (i + j)) (tVar 4) (tCall spDraw [] E0 (tCons (tVar 0) (tCons (tOp (rI0 fun i j => .int (i + j)) (tOp (rI0 fun i j => .int (i - j)) (tVar 6) (tVar 4)) (tC (.int 1))) tNil)))) tNil)))) tNil))) (gName 9))
        (tSeq (tIfS (tTest (tOp (rI0 fun i j => .bl (decide (i < j))) (tVar 7) (tC (.int 3)))) (tRet (tTup (tCons (tOp (rI0 fun i j => .int (i + j)) (tVar 3) (tCall spDraw [] E0 (tCons (tVar 0) (tCons (tOp (rI0 fun i j => .int (i + j)) (tOp (rI0 fun i j => .int (i - j)) (tVar 5) (tVar 3)) (tC (.int 1))) tNil)))) (tCons (tOp (rI0 fun i j => .int (i + j)) (tVar 4) (tCall spDraw [] E0 (tCons (tVar 0) (tCons (tOp (rI0 fun i j => .int (i + j)) (tOp (rI0 fun i j => .int (i - j)) (tVar 6) (tVar 4)) (tC (.int 1))) tNil)))) tNil)))) tNext)
        (tRet (tTup (tCons (tVar 8) (tCons (tVar 9) tNil)))))) → t D [some (.ref sa), some (.ref pr), some vg, some (.int r.x0), some (.int r.z0), some (.int r.x1), some (.int r.z1), some (.int kd), none, none] H2 := fun H2 st2 x2 D hD t ht => by
      subst ht
      -- x = pick(..)
      refine ⟨_, rfl, _, rfl, _, rfl, _, rfl, _, rfl, _, rfl, _, rfl, _, _, rfl, rfl, _, _, rfl, rfl, sa, ca, _, rfl, st2, by omega, by omega, fun H3 d3 st3 x3 d30 d31 => ⟨_, _, rfl, rfl, by show 3 ≤ sizeLine; decide, fun l nl => ?_⟩⟩
      have hn := st3.new nl
      refine ⟨sa, ca, l, [.int r.x0, .int r.x1, .int (r.x0 + d3)], rfl, st3.ex (Evl.Ex.new nl), .inl (sq_of (hd_at hn.1 hn.2 upd_same)), by simp, by show 3 ≤ 1000000; decide, fun H4 vx st4 x4 hx => ?_⟩
      have X4 : Ex (hd sa ca H2) (hd sa ca H4) := (x3.trans (hd_ex (Evl.Ex.new nl))).trans x4
      obtain ⟨xv, rfl, xlo, xhi⟩ : ∃ xv : Int, vx = .int xv ∧ r.x0 ≤ xv ∧ xv ≤ r.x1 := by
        simp only [List.mem_cons, List.not_mem_nil, or_false] at hx
        rcases hx with rfl | rfl | rfl
        · exact ⟨_, rfl, by omega, by omega⟩
        · exact ⟨_, rfl, by omega, by omega⟩
        · exact ⟨_, rfl, by omega, by omega⟩
      -- z = pick(..)
      refine ⟨_, rfl, _, rfl, _, rfl, _, rfl, _, rfl, _, rfl, _, rfl, _, _, rfl, rfl, _, _, rfl, rfl, sa, ca, _, rfl, st4, by omega, by omega, fun H5 d5 st5 x5 d50 d51 => ⟨_, _, rfl, rfl, by show 3 ≤ sizeLine; decide, fun l' nl' => ?_⟩⟩
      have hn' := st5.new nl'
      refine ⟨sa, ca, l', [.int r.z0, .int r.z1, .int (r.z0 + d5)], rfl, st5.ex (Evl.Ex.new nl'), .inl (sq_of (hd_at hn'.1 hn'.2 upd_same)), by simp, by show 3 ≤ 1000000; decide, fun H6 vz st6 x6 hz => ?_⟩
      have X6 : Ex (hd sa ca H2) (hd sa ca H6) := ((X4.trans x5).trans (hd_ex (Evl.Ex.new nl'))).trans x6
      obtain ⟨zv, rfl, zlo, zhi⟩ : ∃ zv : Int, vz = .int zv ∧ r.z0 ≤ zv ∧ zv ≤ r.z1 := by
        simp only [List.mem_cons, List.not_mem_nil, or_false] at hz
        rcases hz with rfl | rfl | rfl
        · exact ⟨_, rfl, by omega, by omega⟩
        · exact ⟨_, rfl, by omega, by omega⟩
        · exact ⟨_, rfl, by omega, by omega⟩
      refine q_when (et_test (ev_op (ev_var rfl) ev_c rv_I0)) (fun hb H7 x7 => ?_) (fun hb H7 x7 => ?_)
      · have st7 := st6.ex x7
        refine ⟨_, rfl, _, rfl, _, rfl, _, rfl, _, _, rfl, rfl, _, _, rfl, rfl, sa, ca, _, rfl, st7, by omega, by omega, fun H8 d8 st8 x8 d80 d81 => ⟨_, _, rfl, rfl, ?_⟩⟩
        refine ⟨_, rfl, _, rfl, _, rfl, _, rfl, _, _, rfl, rfl, _, _, rfl, rfl, sa, ca, _, rfl, st8, by omega, by omega, fun H9 d9 st9 x9 d90 d91 => ⟨_, _, rfl, rfl, by show 2 ≤ sizeLine; decide, fun p np => ?_⟩⟩
        have hp := st9.new np
        show D.rt _ _
        rw [hD]
        exact k _ _ (r.x0 + d8, r.z0 + d9) (st9.ex (Evl.Ex.new np)) ((((((x2.trans X6).trans (hd_ex x7)).trans x8).trans x9)).trans (hd_ex (Evl.Ex.new np))) ⟨p, rfl, st_of (hd_at hp.1 hp.2 upd_same)⟩ ⟨by show r.x0 ≤ r.x0 + d8; omega, by show r.x0 + d8 ≤ r.x1; omega, by show r.z0 ≤ r.z0 + d9; omega, by show r.z0 + d9 ≤ r.z1; omega⟩
      · refine s_retX (evx_pt (K := K) (ev_var rfl) (ev_var rfl)) fun v H8 x8 hv => ?_
        rw [hD]
        have st8 := st6.ex (x7.trans x8)
        exact k H8 v (xv, zv) st8 ((x2.trans X6).trans (hd_ex (x7.trans x8))) (hv.hd st8) ⟨xlo, xhi, zlo, zhi⟩
    cases g with
    | none =>
      have hv : vg = .non := hG
      subst hv
      refine q_when (b := false) (et_is (et_and (b := false) (et_test (ev_op (ev_var rfl) ev_c (rv_eq rfl))) (fun _ => et_is (et_test (ev_op (ev_var rfl) ev_c rv_notN)) rfl)) (Bool.and_false _)) (fun q => by cases q) (fun _ H2 x2 => ?_)
      exact rest H2 (st1.ex x2) (x1.trans (hd_ex x2)) _ rfl _ rfl
    | some g =>
      have hG1 : GateA K (hd sa ca H) vg g := hG
      have hdn : (!decide (vg = V.non)) = true := by
        obtain ⟨a, _, _, rfl, _⟩ := hG1
        rfl
      refine q_when (et_and (et_test (ev_op (ev_var rfl) ev_c (rv_eq rfl))) (fun _ => et_test (ev_op (ev_var rfl) ev_c rv_notN))) (fun hb H2 x2 => ?_) (fun hb H2 x2 => ?_)
      · obtain ⟨a, l, q, rfl, s, h2, h3⟩ := hG1
        have st2 := st1.ex x2
        have X2 := x1.trans (hd_ex x2)
        obtain ⟨i1, i2⟩ := hin g rfl
        refine ⟨_, rfl, _, rfl, sa, ca, a, [l, q], rfl, st2, .inr (ex_t X2 s), by simp, by show 2 ≤ 1000000; decide, fun H3 v st3 x3 hv => ?_⟩
        simp only [List.mem_cons, List.not_mem_nil, or_false] at hv
        rcases hv with rfl | rfl
        · exact k H3 _ g.1 st3 (X2.trans x3) (h2.mono (X2.trans x3)) i1
        · exact k H3 _ g.2 st3 (X2.trans x3) (h3.mono (X2.trans x3)) i2
      · exact rest H2 (st1.ex x2) (x1.trans (hd_ex x2)) _ rfl _ rfl
end
end FW
namespace FW
open PySem PySem.Spec PyProof.Rows L2 FP Evl
/-! ### the corridor's arithmetic -/
def BdN (N : Int) (r : Rect) : Prop := -N ≤ r.x0 ∧ r.x1 ≤ N ∧ -N ≤ r.z0 ∧ r.z1 ≤ N
theorem next_ok {r r' : Rect} {s a b : Int} {N : Int} (hw : Wide r) (ho : OnS r s a b) (hb : BdN N r) (h : NextR r s a b r') :
    Wide r' ∧ OnS r' ((s + 2) % 4) a b ∧ swp (gateOn r' ((s + 2) % 4) a b) = gateOn r s a b ∧ BdN (N + 10) r' := by
  obtain ⟨d1, d2, d3, h1, h2, h3, h4, h5, h6, e⟩ := h
  obtain ⟨o1, o2, o3, o4, o5⟩ := ho
  obtain ⟨wx, wz⟩ := hw
  obtain ⟨b1, b2, b3, b4⟩ := hb
  rcases side4 o1 o2 with rfl | rfl | rfl | rfl
  · rw [if_pos rfl] at e
    subst e
    have e1 : loS r 0 = r.z0 := rfl
    have e2 : hiS r 0 = r.z1 := rfl
    exact ⟨⟨by show r.x1 + 3 ≤ r.x1 + (3 + d3); omega, by show a - d1 + 3 ≤ b + d2; omega⟩, ⟨by decide, by decide, by show a - d1 ≤ a; omega, o4, by show b ≤ b + d2; omega⟩, rfl,
      by show -(N + 10) ≤ r.x1; omega, by show r.x1 + (3 + d3) ≤ N + 10; omega, by show -(N + 10) ≤ a - d1; omega, by show b + d2 ≤ N + 10; omega⟩
  · rw [if_neg (by decide), if_pos rfl] at e
    subst e
    have e1 : loS r 1 = r.x0 := rfl
    have e2 : hiS r 1 = r.x1 := rfl
    exact ⟨⟨by show a - d1 + 3 ≤ b + d2; omega, by show r.z1 + 3 ≤ r.z1 + (3 + d3); omega⟩, ⟨by decide, by decide, by show a - d1 ≤ a; omega, o4, by show b ≤ b + d2; omega⟩, rfl,
      by show -(N + 10) ≤ a - d1; omega, by show b + d2 ≤ N + 10; omega, by show -(N + 10) ≤ r.z1; omega, by show r.z1 + (3 + d3) ≤ N + 10; omega⟩
  · rw [if_neg (by decide), if_neg (by decide), if_pos rfl] at e
    subst e
    have e1 : loS r 2 = r.z0 := rfl
    have e2 : hiS r 2 = r.z1 := rfl
    exact ⟨⟨by show r.x0 - (3 + d3) + 3 ≤ r.x0; omega, by show a - d1 + 3 ≤ b + d2; omega⟩, ⟨by decide, by decide, by show a - d1 ≤ a; omega, o4, by show b ≤ b + d2; omega⟩, rfl,
      by show -(N + 10) ≤ r.x0 - (3 + d3); omega, by show r.x0 ≤ N + 10; omega, by show -(N + 10) ≤ a - d1; omega, by show b + d2 ≤ N + 10; omega⟩
  · rw [if_neg (by decide), if_neg (by decide), if_neg (by decide)] at e
    subst e
    have e1 : loS r 3 = r.x0 := rfl
    have e2 : hiS r 3 = r.x1 := rfl
    exact ⟨⟨by show a - d1 + 3 ≤ b + d2; omega, by show r.z0 - (3 + d3) + 3 ≤ r.z0; omega⟩, ⟨by decide, by decide, by show a - d1 ≤ a; omega, o4, by show b ≤ b + d2; omega⟩, rfl,
      by show -(N + 10) ≤ a - d1; omega, by show b + d2 ≤ N + 10; omega, by show -(N + 10) ≤ r.z0 - (3 + d3); omega, by show r.z0 ≤ N + 10; omega⟩
def Sm4 (p : Pt) : Prop := -10000 ≤ p.1 ∧ p.1 ≤ 10000 ∧ -10000 ≤ p.2 ∧ p.2 ≤ 10000
theorem Sm4.sm {p : Pt} (h : Sm4 p) : Sm p := by
  unfold Sm4 at h
  unfold Sm
  omega
theorem sm_in {r : Rect} {p : Pt} {N : Int} (hN : N ≤ 10000) (hb : BdN N r) (h : InR r p) : Sm4 p := by
  unfold BdN at hb
  unfold InR at h
  unfold Sm4
  omega
/-- what the law wants of a corridor -/
structure CorOk (s : Pt) (gates : List Gate) (e : Pt) : Prop where
  len : gates.length ≤ 3
  bef : Before s gates
  ch : CH e gates
  gok : ∀ g ∈ gates, GOk g
  smg : ∀ g ∈ gates, Sm4 g.1 ∧ Sm4 g.2
  sms : Sm4 s
  sme : Sm4 e
theorem hd_updO {sa ca p : Addr} {H : Hp} {o : HO} (h1 : p ≠ sa) (h2 : p ≠ ca) : hd sa ca (upd H p o) = upd (hd sa ca H) p o := by
  funext a
  by_cases ha : a = p
  · subst ha
    rw [upd_same]
    exact hd_at h1 h2 upd_same
  · rw [upd_ne ha]
    unfold hd
    split
    · rfl
    · rw [upd_ne ha]
theorem GateA.lst {K : Fg} {H : Hp} {x : Addr} {ys : List V} {o : HO} {v : V} {g : Gate} (hx : H x = some (.lst ys)) (h : GateA K H v g) : GateA K (upd H x o) v g := by
  obtain ⟨a, l, r, h1, s, h2, h3⟩ := h
  exact ⟨a, l, r, h1, sqT_lst hx s, h2.lst hx, h3.lst hx⟩
theorem RectA.lst {K : Fg} {H : Hp} {x : Addr} {ys : List V} {o : HO} {v : V} {r : Rect} (hx : H x = some (.lst ys)) (h : RectA K H v r) : RectA K (upd H x o) v r := by
  obtain ⟨a, q, s⟩ := h
  exact ⟨a, q, sqT_lst hx s⟩
theorem Stt.upd {sa ca p : Addr} {H : Hp} {o : HO} (h1 : p ≠ sa) (h2 : p ≠ ca) (h : Stt sa ca H) : Stt sa ca (upd H p o) := by
  obtain ⟨cs, sd, h3, h4, h5⟩ := h
  exact ⟨cs, sd, by rw [upd_ne (Ne.symm h1)]; exact h3, by rw [upd_ne (Ne.symm h2)]; exact h4, h5⟩
def spCorr (K : Fg) : Sp := fun vs H Q _ => ∃ (sa ca : Addr), vs = [.ref sa, .int 3] ∧ Stt sa ca H ∧
  ∀ H' l va gl ve s e gates, Stt sa ca H' → Ex (hd sa ca H) (hd sa ca H') → H' l = some (.lst [va, .ref gl, ve]) → PtA K (hd sa ca H') va s → LstG K (hd sa ca H') gl gates → PtA K (hd sa ca H') ve e → CorOk s gates e → Q (.ref l) H'
section
variable {P : Program} {w : World} {K : Fg} {mg : Str → Option Value} {base : Heap}
theorem scCorr : FnScope ["_law_state_here", "_law_most", "_law_rect", "_law_first", "_law_gates", "_law_used", "_law_turn", "_law_k", "_law_side_here", "_law_found", "_law_ends"] ["_law_state_here", "_law_most"] (defScope sCorr) := ⟨rfl, rfl, rfl, by decide +kernel, rfl, by decide +kernel, by decide +kernel⟩
theorem ok_corr {f : Addr} {fd : FuncData} (F : Fun K "_law_corridor" "_law_corridor" sCorr f fd) (OD : Own P w K mg base "_law_draw" ["_law_state_here", "_law_many"] 1 spDraw) (OP : Own P w K mg base "_law_pick" ["_law_state_here", "_law_row"] 2 (spPick K))
    (OSd : Own P w K mg base "_law_side" ["_law_state_here", "_law_rect", "_law_side_here", "_law_used"] 2 (spSide K)) (ONx : Own P w K mg base "_law_next" ["_law_state_here", "_law_rect", "_law_side_here", "_law_a", "_law_b"] 2 (spNext K))
    (OPt : Own P w K mg base "_law_point" ["_law_state_here", "_law_rect", "_law_ends"] 3 (spPoint K)) (ml : mg "len" = none) (mint : mg "int" = none) (mr : mg "range" = none) :
    FnOk P w K mg base CX0 4 f fd ["_law_state_here", "_law_most"] (spCorr K) := by
  refine F.ok scCorr (fun vs H Q E h => ?_) (fun cdv Ar outer s_ H vs Q E hr h => ?_)
  · obtain ⟨sa, ca, rfl, _⟩ := h
    rfl
  · obtain ⟨sa, ca, rfl, hSt, k⟩ := h
    have hr1 : Room 1 _ := hr.mono (by decide)
    have hr2 : Room 2 _ := hr.mono (by decide)
    have hr3 : Room 3 _ := hr
    refine ⟨_, (pss_cons (ps_set (i := 2) scCorr.nd rfl (Or.inl rfl) (pe_tup (pa_cons pe_int (pa_cons pe_int (pa_cons (pe_op op_add pe_int (pe_own OD hr1 (by rfl) (pa_cons (pv 0) (pa_cons pe_int pa_nil)))) (pa_cons (pe_op op_add pe_int (pe_own OD hr1 (by rfl) (pa_cons (pv 0) (pa_cons pe_int pa_nil)))) pa_nil)))))) (pss_cons (ps_set (i := 3) scCorr.nd rfl (Or.inl rfl) (pv 2)) (pss_cons (ps_set (i := 4) scCorr.nd rfl (Or.inl rfl) (pe_lst pa_nil)) (pss_cons (ps_set (i := 5) scCorr.nd rfl (Or.inl rfl) pe_non) (pss_cons (ps_set (i := 6) scCorr.nd rfl (Or.inl rfl) (pe_own OD hr1 (by rfl) (pa_cons (pv 0) (pa_cons pe_int pa_nil)))) (pss_cons (ps_for PassesOwn.never rfl (pi_range1 (by rfl) mr (pa_cons (pe_own OD hr1 (by rfl) (pa_cons (pv 0) (pa_cons (pe_op op_add (pv 1) pe_int) pa_nil))) pa_nil)) (pg_name (i := 7) scCorr.nd rfl (Or.inl rfl)) (pss_cons (ps_set (i := 8) scCorr.nd rfl (Or.inl rfl) (pe_op op_mod (pe_callTy call_int1 (by rfl) mint (by decide +kernel) (pa_cons (pe_op op_add (pe_op op_add (pv 6) (pe_own OP hr2 (by rfl) (pa_cons (pv 0) (pa_cons (pe_lst (pa_cons pe_int (pa_cons pe_int (pa_cons pe_int (pa_cons pe_int (pa_cons pe_int (pa_cons pe_int pa_nil))))))) pa_nil)))) (pe_op op_mul pe_int (pe_own OD hr1 (by rfl) (pa_cons (pv 0) (pa_cons pe_int pa_nil))))) pa_nil)) pe_int)) (pss_cons (ps_set (i := 9) scCorr.nd rfl (Or.inl rfl) (pe_own OSd hr2 (by rfl) (pa_cons (pv 0) (pa_cons (pv 2) (pa_cons (pv 8) (pa_cons (pv 5) pa_nil)))))) (pss_one (ps_if (pt_cmpR op_notN (pv 9) pe_non (nomark _)) (pss_cons (ps_asg (pe_own ONx hr2 (by rfl) (pa_cons (pv 0) (pa_cons (pv 2) (pa_cons (pv 8) (pa_cons (pe_ix ix_tup (pv 9) pe_int (fun _ _ => rfl)) (pa_cons (pe_ix ix_tup (pv 9) pe_int (fun _ _ => rfl)) pa_nil)))))) (pg_unl rfl (pgs_cons (pg_name (i := 10) scCorr.nd rfl (Or.inl rfl)) (pgs_cons (pg_name (i := 2) scCorr.nd rfl (Or.inl rfl)) pgs_nil)))) (pss_cons (ps_expr (pe_bm PySem.F.plainAttrs_list PySem.F.slot_list_append PySem.F.type_list_append mt_append (pv 4) (pa_cons (pv 10) pa_nil))) (pss_cons (ps_set (i := 5) scCorr.nd rfl (Or.inl rfl) (pe_tup (pa_cons (pe_op op_mod (pe_callTy call_int1 (by rfl) mint (by decide +kernel) (pa_cons (pe_op op_add (pv 8) pe_int) pa_nil)) pe_int) (pa_cons (pe_ix ix_tup (pv 9) pe_int (fun _ _ => rfl)) (pa_cons (pe_ix ix_tup (pv 9) pe_int (fun _ _ => rfl)) pa_nil))))) (pss_one (ps_set (i := 6) scCorr.nd rfl (Or.inl rfl) (pv 8)))))) pss_nil))))) (pss_cons (ps_if (pt_cmpR op_eq (pe_callB call_len_seq (by rfl) ml PySem.boot_len (pa_cons (pv 4) pa_nil)) pe_int (nomark _)) (pss_one (ps_ret (pe_lst (pa_cons (pe_own OPt hr3 (by rfl) (pa_cons (pv 0) (pa_cons (pv 3) (pa_cons pe_non pa_nil)))) (pa_cons (pv 4) (pa_cons (pe_own OPt hr3 (by rfl) (pa_cons (pv 0) (pa_cons (pv 3) (pa_cons pe_non pa_nil)))) pa_nil)))))) pss_nil) (pss_one (ps_ret (pe_lst (pa_cons (pe_own OPt hr3 (by rfl) (pa_cons (pv 0) (pa_cons (pv 3) (pa_cons (pe_ix ix_list (pv 4) pe_int (fun _ _ => rfl)) pa_nil)))) (pa_cons (pv 4) (pa_cons (pe_own OPt hr3 (by rfl) (pa_cons (pv 0) (pa_cons (pv 2) (pa_cons (pe_ix ix_list (pv 4) (pe_op op_sub (pe_callB call_len_seq (by rfl) ml PySem.boot_len (pa_cons (pv 4) pa_nil)) pe_int) (fun _ _ => rfl)) pa_nil)))) pa_nil))))))))))))), ?_⟩
    -- rect = (0, 0, 4 + draw, 4 + draw)
    refine ⟨_, rfl, sa, ca, _, rfl, hSt, by decide, by decide, fun H1 d1 st1 x1 d10 d11 => ⟨_, _, rfl, rfl, ?_⟩⟩
    refine ⟨_, rfl, sa, ca, _, rfl, st1, by decide, by decide, fun H2 d2 st2 x2 d20 d21 => ⟨_, _, rfl, rfl, by show 4 ≤ sizeLine; decide, fun p0 np0 => ?_⟩⟩
    have hn0 := st2.new np0
    -- first = rect, gates = [], used = None
    refine ⟨_, rfl, by show 0 ≤ sizeLine; decide, fun gl ngl => ?_⟩
    have st3 := (st2.ex (Evl.Ex.new (o := .tup [.int 0, .int 0, .int (4 + d1), .int (4 + d2)]) np0)).ex (Evl.Ex.new (o := .lst []) ngl)
    have hng := (st2.ex (Evl.Ex.new (o := .tup [.int 0, .int 0, .int (4 + d1), .int (4 + d2)]) np0)).new ngl
    have x3 : Ex (hd sa ca H) (hd sa ca (upd (upd H2 p0 (.tup [.int 0, .int 0, .int (4 + d1), .int (4 + d2)])) gl (.lst []))) := (x1.trans x2).trans (hd_ex ((Evl.Ex.new np0).trans (Evl.Ex.new ngl)))
    have gl0 : hd sa ca H gl = none := by
      refine fresh_back (x1.trans x2) ?_
      have : H2 gl = none := fresh_back (Evl.Ex.new np0) ngl
      unfold hd
      rw [if_neg (by intro q; rcases q with q | q; exact hng.1 q; exact hng.2 q)]
      exact this
    -- turn = draw(4)
    refine ⟨_, rfl, sa, ca, _, rfl, st3, by decide, by decide, fun H4 d4 st4 x4 d40 d41 => ?_⟩
    -- for k in range(draw(most + 1))
    refine ⟨_, rfl, _, rfl, _, _, rfl, rfl, sa, ca, _, rfl, st4, by decide, by decide, fun H5 d5 st5 x5 d50 d51 => ⟨d5, rfl, by omega, by omega, ?_⟩⟩
    have x45 := x4.trans x5
    have hgl5 : H5 gl = some (.lst []) := hd_sub _ _ (x45 _ _ (hd_at hng.1 hng.2 upd_same))
    let first : Rect := ⟨0, 0, 4 + d1, 4 + d2⟩
    have hr5 : RectA K (hd sa ca H5) (.ref p0) first := RectA.mono x45 ⟨p0, rfl, st_of (hd_at hn0.1 hn0.2 (by rw [upd_ne (ne_of_none upd_same ngl)]; exact upd_same))⟩
    have wf : Wide first := ⟨by show (0 : Int) + 3 ≤ 4 + d1; omega, by show (0 : Int) + 3 ≤ 4 + d2; omega⟩
    have bf : BdN 12 first := ⟨by show -(12 : Int) ≤ 0; decide, by show 4 + d1 ≤ 12; omega, by show -(12 : Int) ≤ 0; decide, by show 4 + d2 ≤ 12; omega⟩
    refine for_range (lo := 0) (n := d5.toNat) (fun i σ H' => ∃ (vr : V) (vu : V) (turn : Int) (y7 y8 y9 y10 : Option V) (r : Rect) (u : Option (Int × Int × Int)) (gates : List Gate) (gvs : List V),
        σ = [some (.ref sa), some (.int 3), some vr, some (.ref p0), some (.ref gl), some vu, some (.int turn), y7, y8, y9, y10] ∧ Stt sa ca H' ∧ Ex (hd sa ca H) (hd sa ca H') ∧ RectA K (hd sa ca H') (.ref p0) first ∧ RectA K (hd sa ca H') vr r ∧ UsedA K (hd sa ca H') vu u ∧
        H' gl = some (.lst gvs) ∧ AllA (GateA K (hd sa ca H')) gvs gates ∧ Cor first gates r u ∧ BdN (12 + 10 * (i : Int)) r ∧ gates.length ≤ i ∧ 0 ≤ turn ∧ turn < 4 ∧ (∀ g ∈ gates, Sm4 g.1 ∧ Sm4 g.2))
      ⟨.ref p0, .non, d4, none, none, none, none, first, none, [], [], rfl, st5, x3.trans x45, hr5, hr5, rfl, hgl5, .nil, .nil wf, (by rw [show (12 : Int) + 10 * ((0 : Nat) : Int) = 12 from rfl]; exact bf), Nat.le_refl _, d40, d41, by intro g hg; cases hg⟩ (fun i σ H6 hi hW => ?_) (fun σ H6 hW => ?_)
    · obtain ⟨vr, vu, turn, y7, y8, y9, y10, r, u, gates, gvs, rfl, st6, x6, hf6, hr6, hu6, hgl6, hgs6, hc6, hb6, hl6, t0, t1, hsm6⟩ := hW
      have hi3 : (i : Int) < 3 := by omega
      -- side = int(turn + pick(..) + 3 * draw(2)) % 4
      refine ⟨_, rfl, _, rfl, by show 6 ≤ sizeLine; decide, fun lp nlp => ?_⟩
      have hnl := st6.new nlp
      refine ⟨sa, ca, lp, _, rfl, st6.ex (Evl.Ex.new nlp), .inl (sq_of (hd_at hnl.1 hnl.2 upd_same)), by simp, by show 6 ≤ 1000000; decide, fun H7 vp st7 x7 hvp => ?_⟩
      obtain ⟨np_, rfl⟩ : ∃ n : Int, vp = .int n := by
        simp only [List.mem_cons, List.not_mem_nil, or_false] at hvp
        rcases hvp with rfl | rfl | rfl | rfl | rfl | rfl <;> exact ⟨_, rfl⟩
      refine ⟨_, _, rfl, rfl, _, rfl, sa, ca, _, rfl, st7, by decide, by decide, fun H8 d8 st8 x8 d80 d81 => ⟨_, _, rfl, rfl, .inl ⟨by decide, by decide⟩, _, _, rfl, rfl, .inl ⟨_, rfl, _, _, rfl, rfl, (show (0 : Int) < 4 by decide), ?_⟩⟩⟩
      have X8 : Ex (hd sa ca H6) (hd sa ca H8) := ((hd_ex (Evl.Ex.new nlp)).trans x7).trans x8
      dsimp only
      generalize hsd : (turn + np_ + 3 * d8) % 4 = sd
      have sd0 : 0 ≤ sd := by rw [← hsd]; exact Int.emod_nonneg _ (by decide)
      have sd3 : sd ≤ 3 := by
        have := Int.emod_lt_of_pos (turn + np_ + 3 * d8) (show (0 : Int) < 4 by decide)
        omega
      obtain ⟨q1, q2, q3, q4⟩ := id hb6
      -- found = side(..)
      refine ⟨_, rfl, _, rfl, _, rfl, _, rfl, sa, ca, vr, vu, r, sd, u, rfl, st8, hr6.mono X8, hu6.mono X8, hc6.wide, ⟨by omega, by omega, by omega, by omega⟩, sd0, sd3, fun H9 vf st9 x9 hfd => ?_⟩
      have X9 := X8.trans x9
      have hgl9 : H9 gl = some (.lst gvs) := hd_sub _ _ (X9 _ _ (hd_at hng.1 hng.2 hgl6))
      rcases hfd with rfl | ⟨a, b, pf, rfl, hpf, hon, hfr⟩
      · refine s_when (b := false) (et_is (et_test (ev_op (ev_var rfl) ev_c rv_notN)) rfl) (fun q => by cases q) (fun _ H10 x10 => ?_)
        have X10 := X9.trans (hd_ex x10)
        exact ⟨vr, vu, turn, _, _, _, _, r, u, gates, gvs, rfl, st9.ex x10, x6.trans X10, hf6.mono X10, hr6.mono X10, hu6.mono X10, x10 _ _ hgl9, hgs6.imp fun _ _ z => z.mono X10, hc6, ⟨by omega, by omega, by omega, by omega⟩, by omega, t0, t1, hsm6⟩
      · refine s_when (b := true) (et_is (et_test (ev_op (ev_var rfl) ev_c rv_notN)) rfl) (fun _ H10 x10 => ?_) (fun q => by cases q)
        have st10 := st9.ex x10
        have hpf10 : SqT K H10 pf [.int a, .int b] := ex_t x10 (ex_t hd_sub hpf)
        have X10 := X9.trans (hd_ex x10)
        -- ends, rect = next(..)
        refine ⟨_, rfl, _, rfl, _, rfl, _, rfl, pf, _, 0, _, rfl, rfl, hpf10, atI_nat (j := 0) rfl, _, rfl, pf, _, 1, _, rfl, rfl, hpf10, atI_nat (j := 1) rfl, sa, ca, vr, r, sd, a, b, rfl, st10, hr6.mono X10, sd0, sd3, fun H11 l v1 v2 r' st11 x11 hl11 hg11 hr11 hnx => ?_⟩
        refine ⟨l, _, rfl, sq_of hl11, rfl, _, _, rfl, _, _, rfl, rfl, ?_⟩
        have X11 := X10.trans x11
        have hgl11 : H11 gl = some (.lst gvs) := hd_sub _ _ (X11 _ _ (hd_at hng.1 hng.2 hgl6))
        have hglen := hgs6.len
        obtain ⟨w', o', e', b'⟩ := next_ok hc6.wide hon hb6 hnx
        -- gates.append(ends)
        refine q_app hgl11 (ev_var rfl) (ev_var rfl) (by omega) fun H12 x12 => ?_
        have hgl12 := x12 _ _ hgl11
        have st12 : Stt sa ca (upd H12 gl (.lst (gvs ++ [v1]))) := (st11.ex x12).upd hng.1 hng.2
        have X12 := X11.trans (hd_ex x12)
        have hpf12 : SqT K (upd H12 gl (.lst (gvs ++ [v1]))) pf [.int a, .int b] := sqT_lst hgl12 (ex_t x12 (ex_t hd_sub (ex_t x11 (sqT_hd st10 hpf10))))
        have up : ∀ v g, GateA K (hd sa ca H12) v g → GateA K (hd sa ca (upd H12 gl (.lst (gvs ++ [v1])))) v g := fun v g z => ((z.mono hd_sub).lst hgl12).hd st12
        -- used = .., turn = side
        refine q_asgU (eu_tup (ea_cons (ev_op (ev_cb (ea_cons (ev_op (ev_var rfl) ev_c rv_I0) ea_nil) rc_int) ev_c (rv_I (by decide))) (ea_cons (ev_op (ev_var rfl) ev_c (rv_ixT hpf12 (atI_nat (j := 0) rfl))) (ea_cons (ev_op (ev_var rfl) ev_c (rv_ixT hpf12 (atI_nat (j := 1) rfl))) ea_nil))) (by show 3 ≤ 100000; decide)) fun pu H13 npu x13 hpu => ?_
        have hnu := st12.new npu
        refine s_asg (ev_var rfl) fun H14 x14 => ?_
        have x134 := x13.trans x14
        have Xu : Ex (hd sa ca H) (hd sa ca (upd H12 gl (.lst (gvs ++ [v1])))) := by
          rw [hd_updO hng.1 hng.2]
          exact Evl.Ex.mut (x6.trans X12) gl0
        refine ⟨v2, .ref pu, sd, _, _, _, _, r', some ((sd + 2) % 4, a, b), gates ++ [gateOn r sd a b], gvs ++ [v1], rfl, st12.ex x134, Xu.trans (hd_ex x134), ?_, ?_, ?_, x134 _ _ upd_same, ?_, ?_, ?_, ?_, sd0, by omega, ?_⟩
        · exact RectA.mono (hd_ex x134) ((((hf6.mono X12).mono hd_sub).lst hgl12).hd st12)
        · exact RectA.mono (hd_ex x134) ((((hr11.mono (hd_ex x12)).mono hd_sub).lst hgl12).hd st12)
        · exact ⟨pu, rfl, ex_t (hd_ex x14) (st_of (hd_at hnu.1 hnu.2 hpu))⟩
        · exact (hgs6.imp fun v g z => GateA.mono (hd_ex x134) (up v g (z.mono X12))).app (.one (GateA.mono (hd_ex x134) (up _ _ (hg11.mono (hd_ex x12)))))
        · exact .snoc hc6 hon hfr w' o' e'
        · obtain ⟨q1', q2', q3', q4'⟩ := b'
          exact ⟨by omega, by omega, by omega, by omega⟩
        · rw [List.length_append, List.length_singleton]; omega
        · intro g hg
          rcases List.mem_append.mp hg with hg | hg
          · exact hsm6 g hg
          · rw [List.mem_singleton.mp hg]
            obtain ⟨i1, i2⟩ := ends_in hc6.wide hon
            exact ⟨sm_in (by omega) hb6 i1, sm_in (by omega) hb6 i2⟩
    · obtain ⟨vr, vu, turn, y7, y8, y9, y10, r, u, gates, gvs, rfl, st6, x6, hf6, hr6, hu6, hgl6, hgs6, hc6, hb6, hl6, t0, t1, hsm6⟩ := hW
      have hglen := hgs6.len
      obtain ⟨q1, q2, q3, q4⟩ := id hb6
      obtain ⟨f1, f2, f3, f4⟩ := id bf
      have hbF : Bdd first := ⟨by omega, by omega, by omega, by omega⟩
      have hbR : Bdd r := ⟨by omega, by omega, by omega, by omega⟩
      have smF : ∀ p, InR first p → Sm4 p := fun p h => sm_in (N := 12) (by decide) bf h
      have smR : ∀ p, InR r p → Sm4 p := fun p h => sm_in (by omega) hb6 h
      -- what both ends of the def do
      have fin : ∀ H7 H8 (vs ve : V) (s e : Pt) l, Ex (hd sa ca H6) (hd sa ca H7) → Stt sa ca H7 → Stt sa ca H8 → Ex (hd sa ca H7) (hd sa ca H8) → H8 l = none → PtA K (hd sa ca H7) vs s → InR first s → PtA K (hd sa ca H8) ve e → InR r e → Q (.ref l) (upd H8 l (.lst [vs, .ref gl, ve])) := fun H7 H8 vs ve s e l x7 st7 st8 x8 nl hs is he ie => by
        have hnl := st8.new nl
        have xl : Ex (hd sa ca H8) (hd sa ca (upd H8 l (.lst [vs, .ref gl, ve]))) := hd_ex (Evl.Ex.new nl)
        have X := (x7.trans x8).trans xl
        refine k _ l vs gl ve s e gates (st8.ex (Evl.Ex.new nl)) (x6.trans X) upd_same (hs.mono (x8.trans xl)) ⟨⟨gvs, sq_of (X _ _ (hd_at hng.1 hng.2 hgl6)), hgs6.imp fun _ _ z => z.mono X⟩, fun g hg => ⟨(hsm6 g hg).1.sm, (hsm6 g hg).2.sm⟩⟩ (he.mono xl)
          ⟨by omega, hc6.before s is, hc6.ch e ie, hc6.gok, hsm6, smF s is, smR e ie⟩
      refine q_when (et_test (ev_op (ev_len (ev_var rfl) (sq_of hgl6)) ev_c (rv_eq rfl))) (fun hb H7 x7 => ?_) (fun hb H7 x7 => ?_)
      · have hz : (gvs.length : Int) = 0 := by simpa using hb
        have hg0 : gates = [] := List.length_eq_zero_iff.mp (by omega)
        have hrf : r = first := by
          rcases hc6.last with ⟨_, _, h⟩ | ⟨_, _, _, _, h, _⟩
          · exact h
          · rw [hg0] at h; simp at h
        have st7 := st6.ex x7
        refine ⟨_, rfl, _, rfl, sa, ca, .ref p0, .non, first, none, rfl, st7, hf6.mono (hd_ex x7), rfl, wf, hbF, (by intro x q; cases q), fun H8 v8 s st8 x8 hp8 i8 => ?_⟩
        refine ⟨_, rfl, _, rfl, _, rfl, sa, ca, .ref p0, .non, first, none, rfl, st8, hf6.mono ((hd_ex x7).trans x8), rfl, wf, hbF, (by intro x q; cases q), fun H9 v9 e st9 x9 hp9 i9 => ?_⟩
        exact ⟨by show 3 ≤ sizeLine; decide, fun l nl => fin H8 H9 v8 v9 s e l ((hd_ex x7).trans x8) st8 st9 x9 nl hp8 i8 hp9 (hrf ▸ i9)⟩
      · have hz : ¬ (gvs.length : Int) = 0 := by simpa using hb
        have st7 := st6.ex x7
        have hgl7 := x7 _ _ hgl6
        obtain ⟨g0, gr, eg⟩ : ∃ g0 gr, gates = g0 :: gr := by
          cases gates with
          | nil => rw [List.length_nil] at hglen; omega
          | cons g0 gr => exact ⟨g0, gr, rfl⟩
        obtain ⟨gi, gn, en⟩ : ∃ gi gn, gates = gi ++ [gn] := by
          rw [eg]
          exact ⟨(g0 :: gr).dropLast, (g0 :: gr).getLast (List.cons_ne_nil _ _), (List.dropLast_concat_getLast _).symm⟩
        obtain ⟨v0, e0, r0⟩ := hgs6.get (i := 0) (x := g0) (by rw [eg]; rfl)
        obtain ⟨vn, en', rn⟩ := hgs6.get (i := gates.length - 1) (x := gn) (by rw [en]; simp)
        obtain ⟨i1, i2⟩ := hc6.first_in g0 gr eg
        obtain ⟨j1, j2⟩ := hc6.last_in gn gi en
        have an : atI gvs ((gvs.length : Int) - 1) = some vn := by
          rw [show (gvs.length : Int) - 1 = ((gates.length - 1 : Nat) : Int) by omega]
          exact atI_nat en'
        refine ⟨_, rfl, _, rfl, _, rfl, gl, gvs, 0, v0, rfl, rfl, sq_of hgl7, atI_nat (j := 0) e0, sa, ca, .ref p0, v0, first, some g0, rfl, st7, hf6.mono (hd_ex x7), r0.mono (hd_ex x7), wf, hbF, (by intro x q; cases q; exact ⟨i1, i2⟩), fun H8 v8 s st8 x8 hp8 i8 => ?_⟩
        have X8 := (hd_ex x7).trans x8
        have hgl8 : H8 gl = some (.lst gvs) := hd_sub _ _ (X8 _ _ (hd_at hng.1 hng.2 hgl6))
        refine ⟨_, rfl, _, rfl, _, rfl, _, rfl, _, rfl, gl, gvs, rfl, .inl (sq_of hgl8), _, _, rfl, rfl, gl, gvs, _, vn, rfl, rfl, sq_of hgl8, an, sa, ca, vr, vn, r, some gn, rfl, st8, hr6.mono X8, rn.mono X8, hc6.wide, hbR, (by intro x q; cases q; exact ⟨j1, j2⟩), fun H9 v9 e st9 x9 hp9 i9 => ?_⟩
        exact ⟨by show 3 ≤ sizeLine; decide, fun l nl => fin H8 H9 v8 v9 s e l X8 st8 st9 x9 nl hp8 i8 hp9 i9⟩
end
end FW
namespace FW
open PySem PySem.Spec PyProof.Rows L2 FP Evl
/-! ### what evaluates to a new object -/
def EvN (te : TE) (σ : L2.St) (H : Hp) (Pa : Addr → Hp → Prop) : Prop := ∀ H1, Ex H H1 → ∀ Q : VK, (∀ a H2, H1 a = none → Ex H1 H2 → Pa a H2 → Q (.ref a) H2) → te σ H1 Q
def SpN (sp : Sp) (vs : List V) (H : Hp) (Pa : Addr → Hp → Prop) : Prop := ∀ H1, Ex H H1 → ∀ Q : VK, (∀ a H2, H1 a = none → Ex H1 H2 → Pa a H2 → Q (.ref a) H2) → ∀ E : XK, sp vs H1 Q E
section
variable {K : Fg} {σ : L2.St} {H H' : Hp} {ta te tl tx tz : TE} {D : L2.Ends} {ts : TS} {Pa : Addr → Hp → Prop}
theorem EvN.mono (e : Ex H H') (h : EvN te σ H Pa) : EvN te σ H' Pa := fun H1 a Q q => h H1 (e.trans a) Q q
theorem evn_call {sp : Sp} {dvs vs : List V} {E : XK} {tA : TA} (h : EvA tA σ H vs) (hs : SpN sp (vs ++ dvs) H Pa) : EvN (tCall sp dvs E tA) σ H Pa := fun H1 e Q q =>
  h H1 e _ fun H2 e2 => hs H2 (e.trans e2) Q (fun a H3 n e3 p => q a H3 (fresh_back e2 n) (e2.trans e3) p) E
theorem EvN.x (h : EvN te σ H Pa) {Pv : V → Hp → Prop} (k : ∀ a H1, Ex H H1 → Pa a H1 → Pv (.ref a) H1) : EvX te σ H Pv := fun H1 e Q q => h H1 e _ fun a H2 _ e2 p => q _ H2 e2 (k a H2 (e.trans e2) p)
theorem s_asgN {i : Nat} (h : EvN te σ H Pa) (k : ∀ a H1, H a = none → Ex H H1 → Pa a H1 → D.nx (σ.set i (some (.ref a))) H1) : tAsg te (gName i) D σ H := h H (Evl.Ex.refl H) _ k
theorem q_asgN {i : Nat} (h : EvN te σ H Pa) (k : ∀ a H1, H a = none → Ex H H1 → Pa a H1 → ts D (σ.set i (some (.ref a))) H1) : tSeq (tAsg te (gName i)) ts D σ H := s_asgN (D := { D with nx := ts D }) h k
theorem s_retN (h : EvN te σ H Pa) (k : ∀ a H1, H a = none → Ex H H1 → Pa a H1 → D.rt (.ref a) H1) : tRet te D σ H := h H (Evl.Ex.refl H) _ k
theorem evn_st {sa ca : Addr} (st : Stt sa ca H) (h : EvN te σ H Pa) : EvN te σ H (fun a H' => a ≠ sa ∧ a ≠ ca ∧ Pa a H') := fun H1 e Q q => h H1 e _ fun a H2 n e2 p => q a H2 n e2 ⟨((st.ex e).new n).1, ((st.ex e).new n).2, p⟩
theorem evn_pt {x z : Int} (hx : Ev tx σ H (.int x)) (hz : Ev tz σ H (.int z)) : EvN (tTup (tCons tx (tCons tz tNil))) σ H (fun a H' => PtA K H' (.ref a) (x, z)) := fun H1 e Q q =>
  (eu_tup (ea_cons hx (ea_cons hz ea_nil)) (by show 2 ≤ 100000; decide)) H1 e Q fun a H2 n e2 h => q a H2 n e2 ⟨a, rfl, st_of h⟩
/-- xs + [p] -/
theorem evn_snoc {a : Addr} {xs : List V} {pts : List Pt} {p : Pt} (ha : Ev ta σ H (.ref a)) (hx : H a = some (.lst xs)) (hp : AllA (PtA K H) xs pts) (hl : xs.length ≤ 1000) (he : EvX te σ H (fun v H' => PtA K H' v p)) :
    EvN (tOp rCat ta (tLst (tCons te tNil))) σ H (fun b H' => ∃ ys, H' b = some (.lst ys) ∧ AllA (PtA K H') ys (pts ++ [p])) := fun H1 e Q q =>
  ha H1 e _ fun H2 e2 => he H2 (e.trans e2) _ fun v H3 e3 pv_ => ⟨by show 1 ≤ sizeLine; decide, fun l nl =>
    have x3 := (e.trans e2).trans e3
    have xl : Ex H3 (upd H3 l (.lst [v])) := Evl.Ex.new nl
    ⟨a, l, xs, [v], rfl, rfl, xl _ _ (x3 _ _ hx), upd_same, sz_of (by rw [List.length_singleton]; omega), fun b nb =>
      have xb := (e2.trans e3).trans (xl.trans (Evl.Ex.new nb))
      q b _ (fresh_back ((e2.trans e3).trans xl) nb) xb ⟨xs ++ [v], upd_same, (hp.imp fun _ _ z => z.mono (e.trans xb)).app (.one ((pv_.mono xl).mono (Evl.Ex.new nb)))⟩⟩⟩
/-- [e for .. in list]: each turn makes a new object -/
theorem evn_lcL {δ : Type} {a : Addr} {xs : List V} {g : TG} {vs : List Nat} (S : Addr → δ → Hp → Prop) (z : Nat → δ) (mono : ∀ a d H H', Ex H H' → S a d H → S a d H')
    (stab : ∀ a d H D acc o, a ≠ D → H D = some (.lst acc) → S a d H → S a d (upd H D (.lst o))) (h : Ev tl σ H (.ref a)) (hx : SqL K H a xs) (hz : xs.length ≤ 100000)
    (turn : ∀ i x H1, xs[i]? = some x → Ex H H1 → ∃ σ2, (∀ Q' : L2.St → Hp → Prop, Q' σ2 H1 → g x (wipe σ vs) H1 Q') ∧ wipe σ2 vs = wipe σ vs ∧ EvN te σ2 H1 (fun a H' => S a (z i) H')) :
    EvN (tLc (iList K tl) g tYes te vs) σ H (fun p H' => ∃ ys, H' p = some (.lst ys) ∧ AllA (fun v d => ∃ a, v = .ref a ∧ S a d H') ys ((List.range xs.length).map z)) := fun H1 e Q q =>
  h H1 e _ fun H2 e2 => ⟨a, rfl, ⟨xs, ex_l (e.trans e2) hx⟩, fun D hD =>
    lc_list (xs := xs) (fun i H' => Ex H2 H' ∧ ∃ ys, H' D = some (.lst ys) ∧ AllA (fun v d => ∃ a, v = .ref a ∧ a ≠ D ∧ S a d H') ys ((List.range i).map z))
      ⟨Evl.Ex.new hD, [], upd_same, .nil⟩ (fun i H' _ p => ex_l ((e.trans e2).trans p.1) hx)
      (fun i x H3 hi p => by
        obtain ⟨e3, ys, hy, hA⟩ := p
        obtain ⟨σ2, hg, hw, hev⟩ := turn i x H3 hi ((e.trans e2).trans e3)
        refine hg _ ⟨hw, ?_⟩
        refine hev H3 (Evl.Ex.refl H3) _ fun b H4 nb e4 s => ⟨ys, e4 _ _ hy, sz_lt ?_, Evl.Ex.mut (e3.trans e4) hD, ys ++ [.ref b], upd_same, ?_⟩
        · have := hA.len
          rw [List.length_map, List.length_range] at this
          have := (List.getElem?_eq_some_iff.mp hi).1
          omega
        · have nbD : b ≠ D := fun q => by rw [q, hy] at nb; cases nb
          rw [List.range_succ, List.map_append]
          refine (hA.imp fun v d y => ?_).app (.one ⟨b, rfl, nbD, stab _ _ _ _ _ _ nbD (e4 _ _ hy) s⟩)
          obtain ⟨c, r, nc, y⟩ := y
          exact ⟨c, r, nc, stab _ _ _ _ _ _ nc (e4 _ _ hy) (mono _ _ _ _ e4 y)⟩)
      (fun H3 p => by
        obtain ⟨e3, ys, hy, hA⟩ := p
        exact q D H3 (fresh_back e2 hD) (e2.trans e3) ⟨ys, hy, hA.imp fun v d y => by obtain ⟨c, r, _, y⟩ := y; exact ⟨c, r, y⟩⟩)⟩
/-- .. for k in range(n) -/
theorem evn_lcR {δ : Type} {tA : TA} {j : Nat} {n : Int} {vs : List Nat} (S : Addr → δ → Hp → Prop) (z : Nat → δ) (mono : ∀ a d H H', Ex H H' → S a d H → S a d H')
    (stab : ∀ a d H D acc o, a ≠ D → H D = some (.lst acc) → S a d H → S a d (upd H D (.lst o))) (h : EvA tA σ H [.int n]) (hn : n ≤ 90000) (hn0 : -90000 ≤ n)
    (turn : ∀ i H1, i < n.toNat → Ex H H1 → wipe ((wipe σ vs).set j (some (.int (i : Int)))) vs = wipe σ vs ∧ EvN te ((wipe σ vs).set j (some (.int (i : Int)))) H1 (fun a H' => S a (z i) H')) :
    EvN (tLc (iRng1 tA) (gName j) tYes te vs) σ H (fun p H' => ∃ ys, H' p = some (.lst ys) ∧ AllA (fun v d => ∃ a, v = .ref a ∧ S a d H') ys ((List.range n.toNat).map z)) := fun H1 e Q q =>
  h H1 e _ fun H2 e2 => ⟨n, rfl, by omega, by omega, fun D hD =>
    lc_range (lo := 0) (n := n.toNat) (fun i H' => Ex H2 H' ∧ ∃ ys, H' D = some (.lst ys) ∧ AllA (fun v d => ∃ a, v = .ref a ∧ a ≠ D ∧ S a d H') ys ((List.range i).map z))
      ⟨Evl.Ex.new hD, [], upd_same, .nil⟩
      (fun i H3 hi p => by
        obtain ⟨e3, ys, hy, hA⟩ := p
        obtain ⟨hw, hev⟩ := turn i H3 hi ((e.trans e2).trans e3)
        have e0 : (0 : Int) + (i : Int) = (i : Int) := Int.zero_add _
        show (gName j) (.int ((0 : Int) + (i : Int))) _ _ _
        rw [e0]
        refine ⟨hw, ?_⟩
        refine hev H3 (Evl.Ex.refl H3) _ fun b H4 nb e4 s => ⟨ys, e4 _ _ hy, sz_lt ?_, Evl.Ex.mut (e3.trans e4) hD, ys ++ [.ref b], upd_same, ?_⟩
        · have := hA.len
          rw [List.length_map, List.length_range] at this
          omega
        · have nbD : b ≠ D := fun q => by rw [q, hy] at nb; cases nb
          rw [List.range_succ, List.map_append]
          refine (hA.imp fun v d y => ?_).app (.one ⟨b, rfl, nbD, stab _ _ _ _ _ _ nbD (e4 _ _ hy) s⟩)
          obtain ⟨c, r, nc, y⟩ := y
          exact ⟨c, r, nc, stab _ _ _ _ _ _ nc (e4 _ _ hy) (mono _ _ _ _ e4 y)⟩)
      (fun H3 p => by
        obtain ⟨e3, ys, hy, hA⟩ := p
        exact q D H3 (fresh_back e2 hD) (e2.trans e3) ⟨ys, hy, hA.imp fun v d y => by obtain ⟨c, r, _, y⟩ := y; exact ⟨c, r, y⟩⟩)⟩
theorem ix_listB {X : Cx} {K : Fg} (e : X.K = K) : IxR X (rIxL K) := e ▸ ix_list
theorem ix_tupB {X : Cx} {K : Fg} (e : X.K = K) : IxR X (rIxT K) := e ▸ ix_tup
theorem sl_listB {X : Cx} {K : Fg} (e : X.K = K) : SlR X (rSlL K) := e ▸ sl_list
end
/-! ### rows: lists of points -/
def RowL (K : Fg) (H : Hp) (a : Addr) (pts : List Pt) : Prop := ∃ xs, H a = some (.lst xs) ∧ AllA (PtA K H) xs pts
theorem RowL.mono {K : Fg} {H H' : Hp} {a : Addr} {pts : List Pt} (e : Ex H H') (h : RowL K H a pts) : RowL K H' a pts := by
  obtain ⟨xs, s, r⟩ := h
  exact ⟨xs, e _ _ s, r.imp fun _ _ z => z.mono e⟩
theorem RowL.stab {K : Fg} {H : Hp} {a D : Addr} {pts : List Pt} {acc o : List V} (n : a ≠ D) (hD : H D = some (.lst acc)) (h : RowL K H a pts) : RowL K (upd H D (.lst o)) a pts := by
  obtain ⟨xs, s, r⟩ := h
  exact ⟨xs, by rw [upd_ne n]; exact s, r.imp fun _ _ z => z.lst hD⟩
theorem RowL.hd {K : Fg} {sa ca : Addr} {H : Hp} {a : Addr} {pts : List Pt} (st : Stt sa ca H) (n1 : a ≠ sa) (n2 : a ≠ ca) (h : RowL K H a pts) : RowL K (hd sa ca H) a pts := by
  obtain ⟨xs, s, r⟩ := h
  exact ⟨xs, hd_at n1 n2 s, r.imp fun _ _ z => z.hd st⟩
theorem RowL.lstP {K : Fg} {H : Hp} {a : Addr} {pts : List Pt} (h : RowL K H a pts) (m : ∀ p ∈ pts, Sm p) : LstP K H a pts := by
  obtain ⟨xs, s, r⟩ := h
  exact ⟨⟨xs, sq_of s, r⟩, m⟩
theorem AllA.mem {α : Type} {R : V → α → Prop} : ∀ {vs : List V} {xs : List α} {v : V}, AllA R vs xs → v ∈ vs → ∃ x ∈ xs, R v x
  | _, _, _, .nil, h => by cases h
  | _, _, v, .cons r t, h => by
    rcases List.mem_cons.mp h with rfl | h
    · exact ⟨_, List.mem_cons_self .., r⟩
    · obtain ⟨x, hx, q⟩ := t.mem h
      exact ⟨x, List.mem_cons_of_mem _ hx, q⟩
theorem AllA.take {α : Type} {R : V → α → Prop} : ∀ {vs : List V} {xs : List α} (n : Nat), AllA R vs xs → AllA R (vs.take n) (xs.take n)
  | _, _, 0, _ => .nil
  | _, _, _ + 1, .nil => .nil
  | _, _, n + 1, .cons r t => .cons r (t.take n)
/-! ### points on a gate -/
def sg (a c : Int) : Int := (if a = c then 0 else 1) * (1 - 2 * (if c < a then 1 else 0))
theorem sg_lt {a c : Int} (h : a < c) : sg a c = 1 := by
  unfold sg
  rw [if_neg (by omega), if_neg (by omega)]; rfl
theorem sg_eq (a : Int) : sg a a = 0 := by
  unfold sg
  rw [if_pos rfl]; simp
theorem sg_gt {a c : Int} (h : c < a) : sg a c = -1 := by
  unfold sg
  rw [if_neg (by omega), if_pos h]; rfl
def absI (x : Int) : Int := if x < 0 then -x else x
def manyG (g : Gate) : Int := if absI (g.2.2 - g.1.2) > absI (g.2.1 - g.1.1) then absI (g.2.2 - g.1.2) else absI (g.2.1 - g.1.1)
def onQ (g : Gate) (k : Nat) : Pt := (2 * g.1.1 + (k : Int) * sg g.1.1 g.2.1, 2 * g.1.2 + (k : Int) * sg g.1.2 g.2.2)
theorem manyG_bd {g : Gate} (h1 : Sm4 g.1) (h2 : Sm4 g.2) : 0 ≤ manyG g ∧ manyG g ≤ 20000 := by
  unfold Sm4 at h1 h2
  unfold manyG absI
  split <;> split <;> (try split) <;> omega
theorem onQ_on {g : Gate} (h : GOk g) {k : Nat} (hk : (k : Int) ≤ 2 * manyG g) : OnG g (onQ g k) := by
  obtain ⟨t, c, hu, hc, e1, e2⟩ := h
  unfold OnG onQ
  rcases hu with rfl | rfl | rfl | rfl <;> simp only [Int.mul_zero, Int.mul_one, Int.mul_neg] at e1 e2
  · have m : manyG g = c := by
      unfold manyG absI
      rw [if_neg (show ¬ g.2.2 - g.1.2 < 0 by omega), if_neg (show ¬ g.2.1 - g.1.1 < 0 by omega), if_neg (by omega)]
      omega
    rw [sg_lt (by omega : g.1.1 < g.2.1), show g.2.2 = g.1.2 by omega, sg_eq]
    simp only []
    omega
  · have m : manyG g = c := by
      unfold manyG absI
      rw [if_neg (show ¬ g.2.2 - g.1.2 < 0 by omega), if_pos (show g.2.1 - g.1.1 < 0 by omega), if_neg (by omega)]
      omega
    rw [sg_gt (by omega : g.2.1 < g.1.1), show g.2.2 = g.1.2 by omega, sg_eq]
    simp only []
    omega
  · have m : manyG g = c := by
      unfold manyG absI
      rw [if_neg (show ¬ g.2.2 - g.1.2 < 0 by omega), if_neg (show ¬ g.2.1 - g.1.1 < 0 by omega), if_pos (by omega)]
      omega
    rw [sg_lt (by omega : g.1.2 < g.2.2), show g.2.1 = g.1.1 by omega, sg_eq]
    simp only []
    omega
  · have m : manyG g = c := by
      unfold manyG absI
      rw [if_pos (show g.2.2 - g.1.2 < 0 by omega), if_neg (show ¬ g.2.1 - g.1.1 < 0 by omega), if_pos (by omega)]
      omega
    rw [sg_gt (by omega : g.2.2 < g.1.2), show g.2.1 = g.1.1 by omega, sg_eq]
    simp only []
    omega
theorem onG_sm {g : Gate} {q : Pt} (h1 : Sm4 g.1) (h2 : Sm4 g.2) (h : OnG g q) : Sm q := by
  unfold Sm4 at h1 h2
  unfold OnG at h
  unfold Sm
  omega
theorem rc_max {H : Hp} {i j : Int} : RC (fun xs H Q => ∃ i j, xs = [.int i, .int j] ∧ Q (.int (if j > i then j else i)) H) [.int i, .int j] H (.int (if j > i then j else i)) := fun H1 _ Q q => ⟨i, j, rfl, q H1 (Evl.Ex.refl H1)⟩
def spLon (K : Fg) : Sp := fun vs H Q _ => ∃ (vg : V) (g : Gate), vs = [vg, .int 2] ∧ GateA K H vg g ∧ Sm4 g.1 ∧ Sm4 g.2 ∧
  ∀ a H', H a = none → Ex H H' → RowL K H' a ((List.range (manyG g * 2 + 1).toNat).map (onQ g)) → Q (.ref a) H'
theorem spn_lon {K : Fg} {H : Hp} {vg : V} {g : Gate} (h : GateA K H vg g) (h1 : Sm4 g.1) (h2 : Sm4 g.2) : SpN (spLon K) [vg, .int 2] H (fun a H' => RowL K H' a ((List.range (manyG g * 2 + 1).toNat).map (onQ g))) :=
  fun H1 e Q q E => ⟨vg, g, rfl, h.mono e, h1, h2, q⟩
section
variable {P : Program} {w : World} {K : Fg} {mg : Str → Option Value} {base : Heap}
abbrev NLon : List Str := ["_law_ends", "_law_scale", "_law_a", "_law_b", "_law_c", "_law_d", "_law_many", "_law_steps", "_law_k"]
theorem scLon : FnScope NLon ["_law_ends", "_law_scale"] (defScope sLon) := ⟨rfl, rfl, rfl, by decide +kernel, rfl, by decide +kernel, by decide +kernel⟩
theorem ok_lon {f : Addr} {fd : FuncData} (F : Fun K "_law_on" "_law_on" sLon f fd) (mmax : mg "max" = none) (mabs : mg "abs" = none) (mint : mg "int" = none) (mr : mg "range" = none) : FnOk P w K mg base CX0 1 f fd ["_law_ends", "_law_scale"] (spLon K) := by
  refine F.ok scLon (fun vs H Q E h => ?_) (fun cdv Ar outer s_ H vs Q E hr h => ?_)
  · obtain ⟨vg, g, rfl, _⟩ := h
    rfl
  · obtain ⟨vg, g, rfl, hg, s1, s2, k⟩ := h
    obtain ⟨ga, l, r, rfl, sg_, ⟨la, rfl, sl⟩, ⟨ra, rfl, sr⟩⟩ := hg
    have mb := manyG_bd s1 s2
    refine ⟨_, (pss_cons (ps_asg (pv 0) (pg_tup rfl (pgs_cons (pg_tup rfl (pgs_cons (pg_name (i := 2) scLon.nd rfl (Or.inr rfl)) (pgs_cons (pg_name (i := 3) scLon.nd rfl (Or.inr rfl)) pgs_nil))) (pgs_cons (pg_tup rfl (pgs_cons (pg_name (i := 4) scLon.nd rfl (Or.inl rfl)) (pgs_cons (pg_name (i := 5) scLon.nd rfl (Or.inl rfl)) pgs_nil))) pgs_nil)))) (pss_cons (ps_set (i := 6) scLon.nd rfl (Or.inl rfl) (pe_callB (call_max2 rfl) (by rfl) mmax (by decide +kernel) (pa_cons (pe_callB call_abs (by rfl) mabs (by decide +kernel) (pa_cons (pe_op op_sub (pv 4) (pv 2)) pa_nil)) (pa_cons (pe_callB call_abs (by rfl) mabs (by decide +kernel) (pa_cons (pe_op op_sub (pv 5) (pv 3)) pa_nil)) pa_nil)))) (pss_cons (ps_set (i := 7) scLon.nd rfl (Or.inr rfl) (pe_lst (pa_cons (pe_op op_mul (pe_callTy call_int1 (by rfl) mint (by decide +kernel) (pa_cons (pe_cmpR op_ne (pv 2) (pv 4) (nomark _)) pa_nil)) (pe_op op_sub pe_int (pe_op op_mul pe_int (pe_callTy call_int1 (by rfl) mint (by decide +kernel) (pa_cons (pe_cmpR op_lt (pv 4) (pv 2) (nomark _)) pa_nil))))) (pa_cons (pe_op op_mul (pe_callTy call_int1 (by rfl) mint (by decide +kernel) (pa_cons (pe_cmpR op_ne (pv 3) (pv 5) (nomark _)) pa_nil)) (pe_op op_sub pe_int (pe_op op_mul pe_int (pe_callTy call_int1 (by rfl) mint (by decide +kernel) (pa_cons (pe_cmpR op_lt (pv 5) (pv 3) (nomark _)) pa_nil))))) pa_nil)))) (pss_one (ps_ret (pe_lc (own := [("_law_k", 8)]) rfl scLon.nd (pi_range1 (by rfl) mr (pa_cons (pe_op op_add (pe_op op_mul (pv 6) (pv 1)) pe_int) pa_nil)) (blkOk_by (own := [("_law_k", 8)]) (N := NLon) (sc := defScope sLon) (by decide +kernel)) (fun _ _ _ _ _ => (pg_name (i := 8) scLon.nd rfl (Or.inl rfl))) (fun _ _ _ _ _ => pts_nil) (fun _ _ _ _ _ => (pe_tup (pa_cons (pe_op op_add (pe_op op_mul (pv 1) (pv 2)) (pe_op op_mul (pv 8) (pe_ix (ix_listB (K := K) rfl) (pv 7) pe_int (fun _ _ => rfl)))) (pa_cons (pe_op op_add (pe_op op_mul (pv 1) (pv 3)) (pe_op op_mul (pv 8) (pe_ix (ix_listB (K := K) rfl) (pv 7) pe_int (fun _ _ => rfl)))) pa_nil)))))))))), ?_⟩
    refine ⟨_, rfl, ga, _, rfl, sg_, rfl, _, _, rfl, ⟨la, _, rfl, sl, rfl, _, _, rfl, _, _, rfl, rfl, _, _, rfl, ⟨ra, _, rfl, sr, rfl, _, _, rfl, _, _, rfl, rfl, rfl, ?_⟩⟩⟩
    have iv : ∀ {H : Hp} {b : Bool}, RC (fun xs H Q => (∃ i, xs = [.int i] ∧ Q (.int i) H) ∨ ∃ k, xs = [.bl k] ∧ Q (.int (if k then 1 else 0)) H) [.bl b] H (.int (if b then 1 else 0)) := rc_intb
    refine q_asg (v := .int (manyG g)) (ev_cb (vs := [.int (absI (g.2.1 - g.1.1)), .int (absI (g.2.2 - g.1.2))]) (ea_cons (ev_cb (vs := [.int (g.2.1 - g.1.1)]) (ea_cons (ev_op (z := .int (g.2.1 - g.1.1)) (ev_var rfl) (ev_var rfl) rv_I0) ea_nil) rc_abs) (ea_cons (ev_cb (vs := [.int (g.2.2 - g.1.2)]) (ea_cons (ev_op (z := .int (g.2.2 - g.1.2)) (ev_var rfl) (ev_var rfl) rv_I0) ea_nil) rc_abs) ea_nil)) rc_max) fun H1 x1 => ?_
    have st : ∀ (a c : Int) (i j : Nat) (σ : L2.St) (H : Hp), σ[i]? = some (some (.int a)) → σ[j]? = some (some (.int c)) →
        Ev (tOp (rI CMul fun i j => .int (i * j)) (tCB (fun xs H Q => (∃ i, xs = [.int i] ∧ Q (.int i) H) ∨ ∃ k, xs = [.bl k] ∧ Q (.int (if k then 1 else 0)) H) (tCons (tOp rNe (tVar i) (tVar j)) tNil))
          (tOp (rI0 fun i j => .int (i - j)) (tC (.int 1)) (tOp (rI CMul fun i j => .int (i * j)) (tC (.int 2)) (tCB (fun xs H Q => (∃ i, xs = [.int i] ∧ Q (.int i) H) ∨ ∃ k, xs = [.bl k] ∧ Q (.int (if k then 1 else 0)) H) (tCons (tOp (rI0 fun i j => .bl (decide (i < j))) (tVar j) (tVar i)) tNil))))) σ H (.int (sg a c)) := fun a c i j σ H h1 h2 => by
      refine ev_is (ev_op (ev_cb (ea_cons (ev_op (ev_var h1) (ev_var h2) (rv_ne rfl)) ea_nil) rc_intb) (ev_op ev_c (ev_op ev_c (ev_cb (ea_cons (ev_op (ev_var h2) (ev_var h1) rv_I0) ea_nil) rc_intb) (rv_I (.inl ⟨by decide, by decide⟩))) rv_I0) (rv_I (.inl ?_))) ?_
      · split <;> constructor <;> decide
      · show V.int _ = V.int _
        congr 1
        unfold sg
        by_cases h : a = c
        · subst h; simp
        · simp [h]
    refine q_asgL (el_lst (ea_cons (st g.1.1 g.2.1 2 4 _ _ rfl rfl) (ea_cons (st g.1.2 g.2.2 3 5 _ _ rfl rfl) ea_nil)) (by show 2 ≤ 100000; decide)) fun sp H2 nsp x2 hsp => ?_
    refine s_retN (evn_lcR (n := manyG g * 2 + 1) (fun a d H => PtA K H (.ref a) d) (onQ g) (fun a d H H' e h => h.mono e) (fun a d H D acc o n hD h => h.lst hD) (ea_cons (ev_op (ev_op (ev_var rfl) (ev_var rfl) (rv_I (.inl ⟨by omega, by omega⟩))) ev_c rv_I0) ea_nil) (by omega) (by omega) (fun i H3 hi x3 => ⟨rfl, ?_⟩)) fun a H3 na x3 ha => ?_
    · have hs3 := sq_of (K := K) (x3 _ _ hsp)
      refine evn_pt (ev_op (ev_op (ev_var rfl) (ev_var rfl) (rv_I (.inl ⟨by decide, by decide⟩))) (ev_op (ev_var rfl) (ev_op (ev_var rfl) ev_c (rv_ixL hs3 (atI_nat (j := 0) rfl))) (rv_I (.inl ⟨by omega, by omega⟩))) rv_I0)
        (ev_op (ev_op (ev_var rfl) (ev_var rfl) (rv_I (.inl ⟨by decide, by decide⟩))) (ev_op (ev_var rfl) (ev_op (ev_var rfl) ev_c (rv_ixL hs3 (atI_nat (j := 1) rfl))) (rv_I (.inl ⟨by omega, by omega⟩))) rv_I0)
    · obtain ⟨ys, hy, hA⟩ := ha
      exact k a H3 (fresh_back (x1.trans x2) na) ((x1.trans x2).trans x3) ⟨ys, hy, hA.imp fun v d z => by obtain ⟨b, rfl, z⟩ := z; exact z⟩
end
end FW
namespace FW
open PySem PySem.Spec PyProof.Rows L2 FP Evl
/-! ### rows through the gates so far -/
def OnPre : List Gate → List Pt → Prop
  | [], [] => True
  | g :: gs, q :: r => OnG g q ∧ OnPre gs r
  | _, _ => False
theorem onPre_snoc {g : Gate} {q : Pt} (h : OnG g q) : ∀ {gs : List Gate} {r : List Pt}, OnPre gs r → OnPre (gs ++ [g]) (r ++ [q])
  | [], [], _ => ⟨h, trivial⟩
  | _ :: _, _ :: _, p => ⟨p.1, onPre_snoc h p.2⟩
  | [], _ :: _, p => p.elim
  | _ :: _, [], p => p.elim
theorem onPre_row {e : Pt} : ∀ {gs : List Gate} {r : List Pt}, OnPre gs r → OnRow e gs (r ++ [dbl e])
  | [], [], _ => rfl
  | _ :: _, _ :: _, p => ⟨p.1, onPre_row p.2⟩
  | [], _ :: _, p => p.elim
  | _ :: _, [], p => p.elim
theorem onPre_len : ∀ {gs : List Gate} {r : List Pt}, OnPre gs r → r.length = gs.length
  | [], [], _ => rfl
  | _ :: _, _ :: _, p => congrArg (· + 1) (onPre_len p.2)
  | [], _ :: _, p => p.elim
  | _ :: _, [], p => p.elim
def PreRow (s : Pt) (gs : List Gate) (row : List Pt) : Prop := ∃ r, row = dbl s :: r ∧ OnPre gs r
def RowS (sa ca : Addr) (K : Fg) (H : Hp) (v : V) (row : List Pt) : Prop := ∃ a, v = .ref a ∧ a ≠ sa ∧ a ≠ ca ∧ RowL K H a row
theorem RowS.mono {sa ca : Addr} {K : Fg} {H H' : Hp} {v : V} {row : List Pt} (e : Ex H H') (h : RowS sa ca K H v row) : RowS sa ca K H' v row := by
  obtain ⟨a, r, n1, n2, h⟩ := h
  exact ⟨a, r, n1, n2, h.mono e⟩
theorem RowS.step {sa ca : Addr} {K : Fg} {H H' : Hp} {v : V} {row : List Pt} (st : Stt sa ca H) (e : Ex (hd sa ca H) (hd sa ca H')) (h : RowS sa ca K H v row) : RowS sa ca K H' v row := by
  obtain ⟨a, r, n1, n2, h⟩ := h
  exact ⟨a, r, n1, n2, ((h.hd st n1 n2).mono e).mono hd_sub⟩
theorem lst_step {sa ca a : Addr} {H H' : Hp} {xs : List V} (n1 : a ≠ sa) (n2 : a ≠ ca) (e : Ex (hd sa ca H) (hd sa ca H')) (h : H a = some (.lst xs)) : H' a = some (.lst xs) := hd_sub _ _ (e _ _ (hd_at n1 n2 h))
theorem evn_lst1 {σ : L2.St} {H : Hp} {te : TE} {Pv : V → Hp → Prop} (mono : ∀ v H H', Ex H H' → Pv v H → Pv v H') (h : EvX te σ H Pv) : EvN (tLst (tCons te tNil)) σ H (fun a H' => ∃ v, H' a = some (.lst [v]) ∧ Pv v H') := fun H1 e Q q =>
  h H1 e _ fun v H2 e2 p => ⟨by show 1 ≤ sizeLine; decide, fun a na => q a _ (fresh_back e2 na) (e2.trans (Evl.Ex.new na)) ⟨v, upd_same, mono _ _ _ (Evl.Ex.new na) p⟩⟩
theorem cut_take (xs : List V) (n : Nat) : cutV xs none (some (n : Int)) = xs.take n := by
  unfold cutV
  rw [HT.sIx_none, HT.sIx_nat, List.drop_zero, Nat.sub_zero]
  by_cases h : n ≤ xs.length
  · rw [Nat.min_eq_left h]
  · rw [Nat.min_eq_right (by omega), List.take_length, List.take_of_length_le (by omega)]
theorem take_snoc {α : Type} {l : List α} {i : Nat} {g : α} (h : l[i]? = some g) : l.take (i + 1) = l.take i ++ [g] := by rw [List.take_add_one, h]; rfl
def spStrs (K : Fg) : Sp := fun vs H Q _ => ∃ (sa ca : Addr) (va : V) (gl : Addr) (ve : V) (s e : Pt) (gates : List Gate), vs = [.ref sa, va, .ref gl, ve] ∧ Stt sa ca H ∧ PtA K (hd sa ca H) va s ∧ LstG K (hd sa ca H) gl gates ∧ PtA K (hd sa ca H) ve e ∧ CorOk s gates e ∧
  ∀ H' l rvs rows, Stt sa ca H' → Ex (hd sa ca H) (hd sa ca H') → l ≠ sa → l ≠ ca → H' l = some (.lst rvs) → AllA (RowS sa ca K H') rvs rows → rows.length ≤ 600 → (∀ row ∈ rows, ∃ r, row = dbl s :: r ∧ OnRow e gates r) → Q (.ref l) H'
theorem pg_tupB {X : Cx} {K : Fg} {es : List Expr} {k : Nat} {pos : Pos} {t : TGs} {n : Nat} (e : X.K = K) (hc : X.calm = true) (h : PGs X es t) (hn : (assignEach es X.env).length = n := by rfl) (hst : (assignEach es X.env).findIdx? (·.1) = none := by rfl) : PG X (.Tuple es k pos) (gTup K n t) := by
  subst e
  exact pg_tup hc h hn hst
theorem dbl_on1 (g : Gate) : OnG g (dbl g.1) := by
  unfold OnG dbl
  simp only []
  omega
theorem dbl_on2 (g : Gate) : OnG g (dbl g.2) := by
  unfold OnG dbl
  simp only []
  omega
section
variable {P : Program} {w : World} {K : Fg} {mg : Str → Option Value} {base : Heap}
abbrev NStrs : List Str := ["_law_state_here", "_law_start", "_law_gates", "_law_end", "_law_rows", "_law_ends", "_law_points", "_law_more", "_law_row", "_law_x", "_law_z", "_law_point_here"]
theorem scStrs : FnScope NStrs ["_law_state_here", "_law_start", "_law_gates", "_law_end"] (defScope sStrs) := ⟨rfl, rfl, rfl, by decide +kernel, rfl, by decide +kernel, by decide +kernel⟩
theorem ok_strs {f : Addr} {fd : FuncData} (F : Fun K "_law_strings" "_law_strings" sStrs f fd) (OL : Own P w K mg base "_law_on" ["_law_ends", "_law_scale"] 1 (spLon K)) (OP : Own P w K mg base "_law_pick" ["_law_state_here", "_law_row"] 2 (spPick K)) (ml : mg "len" = none) :
    FnOk P w K mg base CX0 3 f fd ["_law_state_here", "_law_start", "_law_gates", "_law_end"] (spStrs K) := by
  refine F.ok scStrs (fun vs H Q E h => ?_) (fun cdv Ar outer s_ H vs Q E hr h => ?_)
  · obtain ⟨sa, ca, va, gl, ve, s, e, gates, rfl, _⟩ := h
    rfl
  · obtain ⟨sa, ca, va, gl, ve, s, e, gates, rfl, hSt, hS, hG, hE, hC, k⟩ := h
    have hr1 : Room 1 _ := hr.mono (by decide)
    have hr2 : Room 2 _ := hr
    obtain ⟨⟨gvs, hgs, hgA⟩, hgm⟩ := hG
    have hglen := hgA.len
    have hg3 := hC.len
    refine ⟨_, (pss_cons (ps_set (i := 4) scStrs.nd rfl (Or.inl rfl) (pe_lst (pa_cons (pe_lst (pa_cons (pe_tup (pa_cons (pe_op op_mul pe_int (pe_ix ix_tup (pv 1) pe_int (fun _ _ => rfl))) (pa_cons (pe_op op_mul pe_int (pe_ix ix_tup (pv 1) pe_int (fun _ _ => rfl))) pa_nil))) pa_nil)) pa_nil))) (pss_cons (ps_for PassesOwn.never rfl (pi_list (pv 2)) (pg_name (i := 5) scStrs.nd rfl (Or.inl rfl)) (pss_cons (ps_set (i := 6) scStrs.nd rfl (Or.inl rfl) (pe_own OL hr1 (by rfl) (pa_cons (pv 5) (pa_cons pe_int pa_nil)))) (pss_cut (ps_if (pt_cmpR op_gt (pe_op op_mul (pe_callB call_len_seq (by rfl) ml PySem.boot_len (pa_cons (pv 4) pa_nil)) (pe_callB call_len_seq (by rfl) ml PySem.boot_len (pa_cons (pv 6) pa_nil))) pe_int (nomark _)) (pss_cons (ps_set (i := 6) scStrs.nd rfl (Or.inl rfl) (pe_lst (pa_cons (pe_ix ix_tup (pv 5) pe_int (fun _ _ => rfl)) (pa_cons (pe_ix ix_tup (pv 5) pe_int (fun _ _ => rfl)) pa_nil)))) (pss_one (ps_set (i := 6) scStrs.nd rfl (Or.inl rfl) (pe_op op_cat (pe_lc (own := [("_law_x", 9), ("_law_z", 10)]) rfl scStrs.nd (pi_list (pv 6)) (blkOk_by (own := [("_law_x", 9), ("_law_z", 10)]) (N := NStrs) (sc := defScope sStrs) (by decide +kernel)) (fun _ _ _ _ _ => (pg_tupB (K := K) (n := 2) rfl rfl (pgs_cons (pg_name (i := 9) scStrs.nd rfl (Or.inl rfl)) (pgs_cons (pg_name (i := 10) scStrs.nd rfl (Or.inl rfl)) pgs_nil)))) (fun _ _ _ _ _ => pts_nil) (fun _ _ _ _ _ => (pe_tup (pa_cons (pe_op op_mul pe_int (pv 9)) (pa_cons (pe_op op_mul pe_int (pv 10)) pa_nil))))) (pe_lst (pa_cons (pe_own OP hr2 (by rfl) (pa_cons (pv 0) (pa_cons (pe_own OL hr1 (by rfl) (pa_cons (pv 5) (pa_cons pe_int pa_nil))) pa_nil))) pa_nil)))))) pss_nil) (pss_cons (ps_set (i := 7) scStrs.nd rfl (Or.inl rfl) (pe_lst pa_nil)) (pss_cons (ps_for PassesOwn.never rfl (pi_list (pv 4)) (pg_name (i := 8) scStrs.nd rfl (Or.inr rfl)) (pss_one (ps_set (i := 7) scStrs.nd rfl (Or.inl rfl) (pe_op op_cat (pv 7) (pe_lc (own := [("_law_point_here", 11)]) rfl scStrs.nd (pi_list (pv 6)) (blkOk_by (own := [("_law_point_here", 11)]) (N := NStrs) (sc := defScope sStrs) (by decide +kernel)) (fun _ _ _ _ _ => (pg_name (i := 11) scStrs.nd rfl (Or.inl rfl))) (fun _ _ _ _ _ => pts_nil) (fun _ _ _ _ _ => (pe_op op_cat (pv 8) (pe_lst (pa_cons (pv 11) pa_nil))))))))) (pss_one (ps_set (i := 4) scStrs.nd rfl (Or.inl rfl) (pe_slice sl_list (pv 7) po_none (po_some pe_int))))))))) (pss_one (ps_ret (pe_lc (own := [("_law_row", 8)]) rfl scStrs.nd (pi_list (pv 4)) (blkOk_by (own := [("_law_row", 8)]) (N := NStrs) (sc := defScope sStrs) (by decide +kernel)) (fun _ _ _ _ _ => (pg_name (i := 8) scStrs.nd rfl (Or.inl rfl))) (fun _ _ _ _ _ => pts_nil) (fun _ _ _ _ _ => (pe_op op_cat (pv 8) (pe_lst (pa_cons (pe_tup (pa_cons (pe_op op_mul pe_int (pe_ix (ix_tupB (K := K) rfl) (pv 3) pe_int (fun _ _ => rfl))) (pa_cons (pe_op op_mul pe_int (pe_ix (ix_tupB (K := K) rfl) (pv 3) pe_int (fun _ _ => rfl))) pa_nil))) pa_nil))))))))), ?_⟩
    have rm : ∀ row v H H', Ex H H' → RowS sa ca K H v row → RowS sa ca K H' v row := fun row v H H' e h => h.mono e
    have ss := hC.sms
    have se := hC.sme
    unfold Sm4 at ss se
    -- rows = [[(2 * start[0], 2 * start[1])]]
    have dblP : ∀ {σ : L2.St} {H : Hp} {v : V} {p : Pt} {te : TE}, Ev te σ H v → PtA K H v p → EvX (tTup (tCons (tOp (rI CMul fun i j => .int (i * j)) (tC (.int 2)) (tOp (rIxT K) te (tC (.int 0)))) (tCons (tOp (rI CMul fun i j => .int (i * j)) (tC (.int 2)) (tOp (rIxT K) te (tC (.int 1)))) tNil))) σ H (fun v H' => PtA K H' v (dbl p)) := fun h hp =>
      evx_pt (ev_op ev_c (ev_px h hp) (rv_I (.inl ⟨by decide, by decide⟩))) (ev_op ev_c (ev_pz h hp) (rv_I (.inl ⟨by decide, by decide⟩)))
    refine q_asgN (evn_lst1 (rm [dbl s]) ((evn_st hSt (evn_lst1 (Pv := fun v H' => PtA K H' v (dbl s)) (fun v H H' e h => PtA.mono e h) (dblP (ev_var rfl) (hS.mono hd_sub)))).x fun a H1 _ h => ?_)) fun rl H1 nrl x1 h1 => ?_
    · obtain ⟨n1, n2, v, hv, hp⟩ := h
      exact ⟨a, rfl, n1, n2, [v], hv, .one hp⟩
    obtain ⟨v1, hrl1, hrow1⟩ := h1
    have hnr := hSt.new nrl
    -- for ends in gates
    refine q_forLn (ev_var rfl) (ex_l (hd_sub.trans x1) hgs) (fun i σ H' => ∃ (rl : Addr) (rvs : List V) (rows : List (List Pt)) (y5 y6 y7 y8 y9 y10 y11 : Option V), σ = [some (.ref sa), some va, some (.ref gl), some ve, some (.ref rl), y5, y6, y7, y8, y9, y10, y11] ∧ Stt sa ca H' ∧ Ex (hd sa ca H) (hd sa ca H') ∧
        rl ≠ sa ∧ rl ≠ ca ∧ H' rl = some (.lst rvs) ∧ AllA (RowS sa ca K H') rvs rows ∧ rows.length ≤ 600 ∧ ∀ row ∈ rows, PreRow s (gates.take i) row)
      (fun H2 x2 => ⟨rl, [v1], [[dbl s]], none, none, none, none, none, none, none, rfl, (hSt.ex x1).ex x2, hd_ex (x1.trans x2), hnr.1, hnr.2, x2 _ _ hrl1,   .one (hrow1.mono x2), by simp, fun row hrow => by
        rw [List.mem_singleton.mp hrow]; exact ⟨[], rfl, trivial⟩⟩)
      (fun i σ H' _ hW => by
        obtain ⟨_, _, _, _, _, _, _, _, _, _, _, _, x, _⟩ := hW
        exact ex_l hd_sub (ex_l x hgs)) (fun i x σ H2 hi hW => ?_) (fun σ H2 hW => ?_)
    · obtain ⟨rl, rvs, rows, y5, y6, y7, y8, y9, y10, y11, rfl, st2, x2, nr1, nr2, hrl, hrows, hrlen, hpre⟩ := hW
      obtain ⟨g, eg, hg⟩ := hgA.getV hi
      have hgm4 := hC.smg g (List.mem_of_getElem? eg)
      have hgok := hC.gok g (List.mem_of_getElem? eg)
      have hg2 : GateA K H2 x g := (hg.mono x2).mono hd_sub
      have mb := manyG_bd hgm4.1 hgm4.2
      have hrvl := hrows.len
      -- points = on(ends, 2)
      refine q_asgN (evn_call (ea_cons (ev_var rfl) (ea_cons ev_c ea_nil)) (spn_lon hg2 hgm4.1 hgm4.2)) fun pl H3 npl x3 hpl => ?_
      have hnp := st2.new npl
      have st3 := st2.ex x3
      have hrows3 : AllA (RowS sa ca K H3) rvs rows := hrows.imp fun _ _ z => z.mono x3
      have hg3' := hg2.mono x3
      have qon : ∀ q ∈ (List.range (manyG g * 2 + 1).toNat).map (onQ g), OnG g q := fun q hq => by
        obtain ⟨j, hj, rfl⟩ := List.mem_map.mp hq
        have := List.mem_range.mp hj
        exact onQ_on hgok (by omega)
      have qlen : ((List.range (manyG g * 2 + 1).toNat).map (onQ g)).length = (manyG g * 2 + 1).toNat := by rw [List.length_map, List.length_range]
      generalize hqs : (List.range (manyG g * 2 + 1).toNat).map (onQ g) = qs0 at hpl qon qlen
      -- if len(rows) * len(points) > 300
      refine ⟨fun σ' H' => ∃ (pl : Addr) (qs : List Pt) (y9 y10 : Option V), σ' = [some (.ref sa), some va, some (.ref gl), some ve, some (.ref rl), some x, some (.ref pl), y7, y8, y9, y10, y11] ∧ Stt sa ca H' ∧ Ex (hd sa ca H3) (hd sa ca H') ∧ pl ≠ sa ∧ pl ≠ ca ∧ RowL K H' pl qs ∧ (∀ q ∈ qs, OnG g q) ∧
          rows.length * qs.length ≤ 1800 ∧ qs.length ≤ 50000, ?_, fun σ' H4 hM => ?_⟩
      · obtain ⟨pvs, hpv, hpA⟩ := hpl
        have hpl' := hpA.len
        refine s_when (et_test (ev_op (ev_op (ev_len (ev_var rfl) (sq_of (x3 _ _ hrl))) (ev_len (ev_var rfl) (sq_of hpv)) (rv_I (.inl ⟨by omega, by omega⟩))) ev_c rv_I0)) (fun hb H4 x4 => ?_) (fun hb H4 x4 => ?_)
        · -- the ends of the gate and one point
          obtain ⟨l, r, hl, hr', e0, e1⟩ := (hg3'.mono x4).ends
          have st4 := st3.ex x4
          refine q_asgL (el_lst (ea_cons (e0 _ _ (ev_var rfl)) (ea_cons (e1 _ _ (ev_var rfl)) ea_nil)) (by show 2 ≤ 100000; decide)) fun pl2 H5 np2 x5 hp2 => ?_
          have st5 := st4.ex x5
          have ev1 := evn_st st5 (evn_lcL (K := K) (tl := tVar 6) (te := tTup (tCons (tOp (rI CMul fun i j => .int (i * j)) (tC (.int 2)) (tVar 9)) (tCons (tOp (rI CMul fun i j => .int (i * j)) (tC (.int 2)) (tVar 10)) tNil))) (g := gTup K 2 (gCons (gName 9) (gCons (gName 10) gNil))) (vs := [9, 10])
            (σ := [some (.ref sa), some va, some (.ref gl), some ve, some (.ref rl), some x, some (.ref pl2), y7, y8, y9, y10, y11]) (H := H5) (a := pl2) (xs := [l, r])
            (fun a d H => PtA K H (.ref a) d) (fun i => if i = 0 then dbl g.1 else dbl g.2) (fun a d H H' e h => h.mono e) (fun a d H D acc o n hD h => h.lst hD) (ev_var rfl) (sq_of hp2) (by show 2 ≤ 100000; decide) (fun i x' H6 hi6 x6 => by
              have pt : ∃ p, PtA K H6 x' p ∧ (if i = 0 then dbl g.1 else dbl g.2) = dbl p := by
                cases i with
                | zero =>
                  simp at hi6
                  subst hi6
                  exact ⟨g.1, hl.mono (x5.trans x6), rfl⟩
                | succ i =>
                  cases i with
                  | zero =>
                    simp at hi6
                    subst hi6
                    exact ⟨g.2, hr'.mono (x5.trans x6), rfl⟩
                  | succ i => simp at hi6
              obtain ⟨p, ⟨pa, rfl, hps⟩, ez⟩ := pt
              refine ⟨[some (.ref sa), some va, some (.ref gl), some ve, some (.ref rl), some x, some (.ref pl2), y7, y8, some (.int p.1), some (.int p.2), y11], fun Q' q' => ⟨pa, _, rfl, hps, rfl, _, _, rfl, _, _, rfl, rfl, q'⟩, rfl, ?_⟩
              rw [ez]
              exact evn_pt (ev_op ev_c (ev_var rfl) (rv_I (.inl ⟨by decide, by decide⟩))) (ev_op ev_c (ev_var rfl) (rv_I (.inl ⟨by decide, by decide⟩)))))
          unfold tAsg
          rw [tOp]
          refine ev1 H5 (Evl.Ex.refl H5) _ fun a1 H6 na1 x6 h1 => ?_
          obtain ⟨n11, n12, ys, hy, hyA⟩ := h1
          have st6 := st5.ex x6
          refine ⟨_, rfl, ?_⟩
          have ev2 := evn_st st6 (evn_call (σ := [some (.ref sa), some va, some (.ref gl), some ve, some (.ref rl), some x, some (.ref pl2), y7, y8, y9, y10, y11]) (E := E0) (dvs := []) (tA := tCons (tVar 5) (tCons (tC (.int 2)) tNil)) (H := H6) (ea_cons (ev_var rfl) (ea_cons ev_c ea_nil)) (spn_lon (((hg3'.mono x4).mono x5).mono x6) hgm4.1 hgm4.2))
          refine ev2 H6 (Evl.Ex.refl H6) _ fun a2 H7 na2 x7 h2 => ?_
          obtain ⟨n21, n22, zs, hz, hzA⟩ := h2
          have st7 := st6.ex x7
          rw [hqs] at hzA
          have hzl := hzA.len
          refine ⟨sa, ca, a2, zs, rfl, st7, .inl (sq_of (hd_at n21 n22 hz)), (by intro q; rw [q] at hzl; simp at hzl; omega), by omega, fun H8 v st8 x8 hv => ?_⟩
          obtain ⟨q, hq, hvq⟩ := hzA.mem hv
          have hvq8 : PtA K H8 v q := ((hvq.hd st7).mono x8).mono hd_sub
          refine ⟨by show 1 ≤ sizeLine; decide, fun a3 na3 => ?_⟩
          have ha1 : H8 a1 = some (.lst ys) := lst_step n11 n12 x8 (x7 _ _ hy)
          have hyl := hyA.len
          rw [List.length_map, List.length_range] at hyl
          refine ⟨a1, a3, ys, [v], rfl, rfl, Evl.Ex.new na3 _ _ ha1, upd_same, sz_of (by rw [hyl]; show 2 + 1 ≤ 100000; decide), fun p np => ?_⟩
          have x9 : Ex H8 (upd (upd H8 a3 (.lst [v])) p (.lst (ys ++ [v]))) := (Evl.Ex.new na3).trans (Evl.Ex.new np)
          have st9 := st8.ex x9
          have hnp9 := (st8.ex (Evl.Ex.new (o := .lst [v]) na3)).new np
          refine ⟨p, [dbl g.1, dbl g.2, q], _, _, rfl, st9, ((hd_ex ((x4.trans x5).trans (x6.trans x7))).trans x8).trans (hd_ex x9), hnp9.1, hnp9.2, ⟨ys ++ [v], upd_same, ?_⟩, ?_, by show rows.length * 3 ≤ 1800; omega, by show 3 ≤ 50000; decide⟩
          · have : AllA (PtA K (upd (upd H8 a3 (.lst [v])) p (.lst (ys ++ [v])))) ys [dbl g.1, dbl g.2] := hyA.imp fun u d z => by
              obtain ⟨b, rfl, z⟩ := z
              exact (((((z.mono x7).hd st7).mono x8).mono hd_sub).mono x9)
            exact this.app (.one (hvq8.mono x9))
          · intro z hz'
            simp only [List.mem_cons, List.not_mem_nil, or_false] at hz'
            rcases hz' with rfl | rfl | rfl
            · exact dbl_on1 g
            · exact dbl_on2 g
            · exact qon _ hq
        · have hb2 : ¬ (300 : Int) < (rvs.length : Int) * (pvs.length : Int) := by simpa using hb
          refine ⟨pl, qs0, y9, y10, rfl, st3.ex x4, hd_ex x4, hnp.1, hnp.2, ⟨pvs, x4 _ _ hpv, hpA.imp fun _ _ z => z.mono x4⟩, qon, ?_, by omega⟩
          rw [← hrvl, ← hpl']
          have : ((rvs.length * pvs.length : Nat) : Int) = (rvs.length : Int) * (pvs.length : Int) := Int.natCast_mul _ _
          omega
      · obtain ⟨pl, qs, y9, y10, rfl, st4, x4, np1, np2, ⟨pvs, hpv, hpA⟩, hqon, hq18, hq5⟩ := hM
        have hpvl := hpA.len
        have hrl4 : H4 rl = some (.lst rvs) := lst_step nr1 nr2 x4 (x3 _ _ hrl)
        have hrows4 : AllA (RowS sa ca K H4) rvs rows := hrows3.imp fun _ _ z => z.step st3 x4
        -- more = []
        refine q_asgL (el_lst ea_nil (by show 0 ≤ 100000; decide)) fun ml0 H5 nm0 x5 hm0 => ?_
        have st5 := st4.ex x5
        have hnm0 := st4.new nm0
        -- for row in rows
        refine q_forLn (ev_var rfl) (sq_of (x5 _ _ hrl4)) (fun j σ' H' => ∃ (mll : Addr) (mvs : List V) (more : List (List Pt)) (y8 : Option V), σ' = [some (.ref sa), some va, some (.ref gl), some ve, some (.ref rl), some x, some (.ref pl), some (.ref mll), y8, y9, y10, y11] ∧ Ex H5 H' ∧ H' mll = some (.lst mvs) ∧
            AllA (RowS sa ca K H') mvs more ∧ more.length = j * qs.length ∧ ∀ row ∈ more, PreRow s (gates.take (i + 1)) row)
          (fun H6 x6 => ⟨ml0, [], [], _, rfl, x6, x6 _ _ hm0, .nil, by simp, by intro row h; cases h⟩) (fun j σ' H' _ hW => by
            obtain ⟨_, _, _, _, _, x, _⟩ := hW
            exact sq_of (x _ _ (x5 _ _ hrl4))) (fun j rv σ' H6 hj hW => ?_) (fun σ' H6 hW => ?_)
        · obtain ⟨mll, mvs, more, y8, rfl, x6, hm, hmore, hml, hmp⟩ := hW
          obtain ⟨row, erow, ra, rfl, na1, na2, rxs, hra, hrA⟩ := hrows4.getV hj
          obtain ⟨r0, er0, hr0⟩ := hpre row (List.mem_of_getElem? erow)
          have hjl : j < rows.length := (List.getElem?_eq_some_iff.mp erow).1
          have st6 := st5.ex x6
          have x46 := x5.trans x6
          have hrxl := hrA.len
          have hrl0 : rxs.length ≤ 1000 := by
            rw [hrxl, er0, List.length_cons, onPre_len hr0, List.length_take]; omega
          have hmvl := hmore.len
          have hsize : (j + 1) * qs.length ≤ 1800 := Nat.le_trans (Nat.mul_le_mul_right _ hjl) hq18
          rw [Nat.succ_mul] at hsize
          refine ⟨_, rfl, ?_⟩
          have ev1 := evn_lcL (K := K) (tl := tVar 6) (te := tOp rCat (tVar 8) (tLst (tCons (tVar 11) tNil))) (g := gName 11) (vs := [11])
            (σ := [some (.ref sa), some va, some (.ref gl), some ve, some (.ref rl), some x, some (.ref pl), some (.ref mll), some (.ref ra), y9, y10, y11]) (H := H6) (a := pl) (xs := pvs)
            (fun a d H => a ≠ sa ∧ a ≠ ca ∧ RowL K H a d) (fun i => row ++ [qs.getD i (0, 0)]) (fun a d H H' e h => ⟨h.1, h.2.1, h.2.2.mono e⟩) (fun a d H D acc o n hD h => ⟨h.1, h.2.1, h.2.2.stab n hD⟩) (ev_var rfl) (sq_of (x46 _ _ hpv)) (by omega) (fun i' x' H7 hi7 x7 => by
              obtain ⟨q, eq', hq'⟩ := hpA.getV hi7
              refine ⟨[some (.ref sa), some va, some (.ref gl), some ve, some (.ref rl), some x, some (.ref pl), some (.ref mll), some (.ref ra), y9, y10, some x'], fun Q' q' => q', rfl, ?_⟩
              refine evn_st (st6.ex x7) ?_
              rw [List.getD_eq_getElem?_getD, eq']
              exact evn_snoc (ev_var rfl) ((x46.trans x7) _ _ hra) (hrA.imp fun _ _ z => z.mono (x46.trans x7)) hrl0 (evx_ev (ev_var rfl) fun H8 x8 => hq'.mono ((x46.trans x7).trans x8)))
          refine ev1 H6 (Evl.Ex.refl H6) _ fun a1 H7 na1' x7 h1 => ?_
          obtain ⟨ys, hy, hyA⟩ := h1
          have hyl := hyA.len
          rw [List.length_map, List.length_range] at hyl
          refine ⟨mll, a1, mvs, ys, rfl, rfl, x7 _ _ hm, hy, sz_of (by omega), fun p np => ?_⟩
          have xp : Ex H7 (upd H7 p (.lst (mvs ++ ys))) := Evl.Ex.new np
          refine ⟨p, mvs ++ ys, more ++ (List.range pvs.length).map (fun i => row ++ [qs.getD i (0, 0)]), _, rfl, x6.trans (x7.trans xp), upd_same, ?_, ?_, ?_⟩
          · refine (hmore.imp fun _ _ z => z.mono (x7.trans xp)).app (hyA.imp fun v d z => ?_)
            obtain ⟨b, rfl, b1, b2, z⟩ := z
            exact ⟨b, rfl, b1, b2, z.mono xp⟩
          · rw [List.length_append, List.length_map, List.length_range, hml, hpvl, Nat.succ_mul]
          · intro row' hrow'
            rcases List.mem_append.mp hrow' with h | h
            · exact hmp row' h
            · obtain ⟨i', hi', rfl⟩ := List.mem_map.mp h
              have hi2 := List.mem_range.mp hi'
              have hmem : qs.getD i' (0, 0) ∈ qs := by
                rw [List.getD_eq_getElem?_getD, List.getElem?_eq_getElem (by omega)]
                exact List.getElem_mem _
              refine ⟨r0 ++ [qs.getD i' (0, 0)], by rw [er0]; rfl, ?_⟩
              rw [take_snoc eg]
              exact onPre_snoc (hqon _ hmem) hr0
        · obtain ⟨mll, mvs, more, y8, rfl, x6, hm, hmore, hml, hmp⟩ := hW
          have hmvl := hmore.len
          -- rows = more[:600]
          refine s_asgL (el_sl (ev_var rfl) eo_none (eo_some ev_c) (sq_of hm)) fun rl' H7 nrl' x7 hrl' => ?_
          have st6 := st5.ex x6
          have hnr' := st6.new nrl'
          rw [show cutV mvs none (some (600 : Int)) = mvs.take 600 from cut_take mvs 600] at hrl'
          refine ⟨rl', mvs.take 600, more.take 600, _, _, _, _, _, _, _, rfl, st6.ex x7, (((x2.trans (hd_ex x3)).trans x4).trans (hd_ex (x5.trans x6))).trans (hd_ex x7), hnr'.1, hnr'.2, hrl', (hmore.take 600).imp fun _ _ z => z.mono x7, ?_, fun row h => hmp row (List.mem_of_mem_take h)⟩
          rw [List.length_take]; omega
    · obtain ⟨rl, rvs, rows, y5, y6, y7, y8, y9, y10, y11, rfl, st2, x2, nr1, nr2, hrl, hrows, hrlen, hpre⟩ := hW
      rw [hglen, List.take_length] at hpre
      have hE2 : PtA K H2 ve e := (hE.mono x2).mono hd_sub
      have hrvl := hrows.len
      refine s_retN (evn_st st2 (evn_lcL (K := K) (tl := tVar 4) (g := gName 8) (vs := [8]) (H := H2) (a := rl) (xs := rvs) (fun a d H => a ≠ sa ∧ a ≠ ca ∧ RowL K H a d) (fun i => rows.getD i [] ++ [dbl e]) (fun a d H H' e h => ⟨h.1, h.2.1, h.2.2.mono e⟩) (fun a d H D acc o n hD h => ⟨h.1, h.2.1, h.2.2.stab n hD⟩) (ev_var rfl) (sq_of hrl) (by omega) (fun i x' H3 hi3 x3 => ?_))) fun l H3 nl x3 h3 => ?_
      · obtain ⟨row, erow, ra, rfl, na1, na2, rxs, hra, hrA⟩ := hrows.getV hi3
        obtain ⟨r0, er0, hr0⟩ := hpre row (List.mem_of_getElem? erow)
        have hrxl := hrA.len
        refine ⟨[some (.ref sa), some va, some (.ref gl), some ve, some (.ref rl), y5, y6, y7, some (.ref ra), y9, y10, y11], fun Q' q' => q', rfl, ?_⟩
        refine evn_st (st2.ex x3) ?_
        rw [List.getD_eq_getElem?_getD, erow]
        refine evn_snoc (ev_var rfl) (x3 _ _ hra) (hrA.imp fun _ _ z => z.mono x3) ?_ (dblP (ev_var rfl) (hE2.mono x3))
        rw [hrxl, er0, List.length_cons, onPre_len hr0]; omega
      · obtain ⟨n1, n2, ys, hy, hyA⟩ := h3
        refine k H3 l ys ((List.range rvs.length).map fun i => rows.getD i [] ++ [dbl e]) (st2.ex x3) (x2.trans (hd_ex x3)) n1 n2 hy (hyA.imp fun v d z => ?_) ?_ ?_
        · obtain ⟨b, rfl, b1, b2, z⟩ := z
          exact ⟨b, rfl, b1, b2, z⟩
        · rw [List.length_map, List.length_range]; omega
        · intro row' h'
          obtain ⟨i', hi', rfl⟩ := List.mem_map.mp h'
          have hi2 := List.mem_range.mp hi'
          have hmem : rows.getD i' [] ∈ rows := by
            rw [List.getD_eq_getElem?_getD, List.getElem?_eq_getElem (by omega)]
            exact List.getElem_mem _
          obtain ⟨r0, er0, hr0⟩ := hpre _ hmem
          exact ⟨r0 ++ [dbl e], by rw [er0]; rfl, onPre_row hr0⟩
end
end FW
namespace FW
open PySem PySem.Spec PyProof.Rows L2 FP Evl
/-! ### the law's arithmetic -/
theorem lw_len (S : Int) (v : Pt) : lw S v = len S v := by
  unfold lw len sq2
  rw [Int.mul_comm v.1 S, Int.mul_comm v.2 S]
theorem sumP_lw (S : Int) : ∀ l : List Pt, sumP (lw S) l = sumP (len S) l
  | [] => rfl
  | [_] => rfl
  | a :: b :: r => by
    have := sumP_lw S (b :: r)
    simp only [sumP]
    rw [this, lw_len]
theorem sumP_dbl (S : Int) : ∀ l : List Pt, sumP (lw (2 * S)) l = sumP (len S) (l.map dbl)
  | [] => rfl
  | [_] => rfl
  | a :: b :: r => by
    have := sumP_dbl S (b :: r)
    simp only [sumP, List.map_cons] at this ⊢
    rw [this, sb_dbl]
    congr 1
    unfold lw len sq2 dbl
    congr 1
    grind
/-- no row is shorter -/
theorem not_shorter {s e : Pt} {gates : List Gate} {r : List Pt} (hC : CorOk s gates e) (hr : OnRow e gates r) :
    ¬ sumP (lw 1000000000) (dbl s :: r) + ((dbl s :: r).length : Int) < sumP (lw (2 * 1000000000)) (tautPts s gates e) := by
  have := low_le (S := 1000000000) (by decide) hC.bef hC.ch hC.gok hr
  rw [sumP_dbl, sumP_lw, List.length_cons]
  omega
/-- how many parts are not exact -/
def notEx (f : Pt → Bool) : List Pt → Nat
  | a :: b :: r => (if f (sb b a) = true then 0 else 1) + notEx f (b :: r)
  | _ => 0
theorem hw_sum (S : Int) : ∀ l : List Pt, sumP (hw S) l = sumP (lw S) l + (notEx (exq S) l : Int)
  | [] => rfl
  | [_] => rfl
  | a :: b :: r => by
    have := hw_sum S (b :: r)
    simp only [sumP, notEx]
    rw [this]
    unfold hw
    split <;> omega
/-- the exactness of the k-th part -/
def exAt (f : Pt → Bool) (l : List Pt) (k : Nat) : Bool := match l[k]?, l[k + 1]? with
  | some a, some b => f (sb b a)
  | _, _ => true
theorem exAt_of {f : Pt → Bool} {l : List Pt} {k : Nat} {a b : Pt} (h1 : l[k]? = some a) (h2 : l[k + 1]? = some b) : exAt f l k = f (sb b a) := by
  unfold exAt
  rw [h1, h2]
theorem filter_succ (n : Nat) (f : Nat → Bool) : ((List.range (n + 1)).filter f).length = (if f 0 = true then 1 else 0) + ((List.range n).filter fun k => f (k + 1)).length := by
  rw [List.range_succ_eq_map, List.filter_cons]
  have e : ((List.map Nat.succ (List.range n)).filter f).length = ((List.range n).filter fun k => f (k + 1)).length := by
    rw [List.filter_map, List.length_map]
    rfl
  split
  · rw [List.length_cons, e]; omega
  · rw [e]; omega
theorem notEx_count (f : Pt → Bool) : ∀ l : List Pt, ((List.range (l.length - 1)).filter fun k => !exAt f l k).length = notEx f l
  | [] => rfl
  | [_] => rfl
  | a :: b :: r => by
    have ih := notEx_count f (b :: r)
    simp only [List.length_cons, Nat.add_sub_cancel] at ih ⊢
    rw [filter_succ]
    have e0 : exAt f (a :: b :: r) 0 = f (sb b a) := rfl
    have e1 : (fun k => !exAt f (a :: b :: r) (k + 1)) = fun k => !exAt f (b :: r) k := rfl
    rw [e0, e1, ih]
    simp only [notEx]
    cases f (sb b a) <;> rfl
theorem cut_two {xs : List V} {k : Nat} {x y : V} (h1 : xs[k]? = some x) (h2 : xs[k + 1]? = some y) : cutV xs (some (k : Int)) (some ((k : Int) + 2)) = [x, y] := by
  have hk : k + 1 < xs.length := (List.getElem?_eq_some_iff.mp h2).1
  unfold cutV
  rw [show (k : Int) + 2 = ((k + 2 : Nat) : Int) by omega, HT.sIx_nat, HT.sIx_nat, Nat.min_eq_left (by omega), Nat.min_eq_left (by omega), show k + 2 - k = 2 by omega]
  obtain ⟨b, c, e1, e2, e3⟩ := drop_two hk
  rw [e3]
  rw [h1] at e1
  rw [h2] at e2
  cases e1
  cases e2
  rfl
/-! ### more promises -/
theorem spx_taut {K : Fg} {H : Hp} {va : V} {gl : Addr} {ve : V} {s e : Pt} {gates : List Gate} (h1 : PtA K H va s) (h2 : LstG K H gl gates) (h3 : PtA K H ve e) (h4 : Sm s) (h5 : Sm e) (h6 : gates.length ≤ 100) :
    SpX (spTaut K) [va, .ref gl, ve] H (TautA K (tautPts s gates e)) :=
  fun H1 x Q q E => ⟨va, gl, ve, s, e, gates, rfl, h1.mono x, h2.mono x, h3.mono x, h4, h5, h6, fun v H' e2 z => q v H' e2 z⟩
theorem spu_lb {K : Fg} {H : Hp} {a : Addr} {pts : List Pt} {S : Int} (h : LstP K H a pts) (h0 : pts ≠ []) (h1 : pts.length ≤ 1000) (h2 : 0 ≤ S) (h3 : S ≤ 1000000) :
    SpN (spLb K) [.ref a, .int S] H (fun p H' => H' p = some (.tup [.int (sumP (lw S) pts), .int (sumP (hw S) pts)])) :=
  fun H1 e Q q E => ⟨a, pts, S, rfl, h.mono e, h0, h1, h2, h3, q⟩
theorem LstP.hd {K : Fg} {sa ca : Addr} {H : Hp} {a : Addr} {pts : List Pt} (st : Stt sa ca H) (hne : pts ≠ []) (h : LstP K H a pts) : LstP K (hd sa ca H) a pts := by
  obtain ⟨⟨xs, hs, hA⟩, m⟩ := h
  have hA' : AllA (PtA K (FW.hd sa ca H)) xs pts := hA.imp fun _ _ z => z.hd st
  obtain ⟨cs, sd, h1, h2, _⟩ := st
  refine ⟨⟨xs, ?_, hA'⟩, m⟩
  have int_no : ∀ (xs : List V) (pts : List Pt) (i : Nat) (n : Int), AllA (PtA K H) xs pts → xs[i]? = some (.int n) → False := fun xs pts i n hA h => by
    obtain ⟨p, _, a, q, _⟩ := hA.getV h
    cases q
  rcases hs with (hs | ⟨ob, hs⟩) | hs
  · have n1 : a ≠ sa := fun q => by
      rw [q, h1] at hs
      cases hs
      exact int_no _ _ 1 _ hA rfl
    have n2 : a ≠ ca := fun q => by
      rw [q, h2] at hs
      cases hs
      cases cs with
      | nil =>
        have := hA.len
        exact hne (List.length_eq_zero_iff.mp this.symm)
      | cons c r => exact int_no _ _ 0 _ hA rfl
    exact .inl (.inl (hd_at n1 n2 hs))
  · exact .inl (.inr ⟨ob, hd_at (ne_of hs h1 (by intro q; cases q)) (ne_of hs h2 (by intro q; cases q)) hs⟩)
  · exact .inr hs
theorem rc_isi {K : Fg} {H : Hp} {p : Addr} {xs : List V} (h : H p = some (.tup xs)) : RC (rIsi K) [.ref p, .ty "tuple"] H (.bl true) := fun H1 e Q q =>
  ⟨.ref p, .ty "tuple", .type "tuple", .type "tuple", true, rfl, .ty _, .base (.tup (e _ _ h)), kit_ty (by decide +kernel), q H1 (Evl.Ex.refl H1)⟩
theorem rv_ne2 {K : Fg} {H : Hp} {p q : Addr} {a b : Int} (hp : H p = some (.tup [.int a, .int b])) (hq : H q = some (.tup [.int a, .int b])) : RV (rNeD K) (.ref p) (.ref q) H (.bl false) := fun H1 e Q k =>
  ⟨.tuple [.int a, .int b], .tuple [.int a, .int b], .tup (st_of (e _ _ hp)) (.cons (.int _) (.cons (.int _) .nil)), .tup (st_of (e _ _ hq)) (.cons (.int _) (.cons (.int _) .nil)), rfl, rfl, by
    rw [show PyData.eqv (.tuple [.int a, .int b]) (.tuple [.int a, .int b]) = true by simp [PyData.eqv, PyData.eqvAll]]
    exact k H1 (Evl.Ex.refl H1)⟩
theorem taut_ne (s : Pt) (gates : List Gate) (e : Pt) : tautPts s gates e ≠ [] := by unfold tautPts; exact List.cons_ne_nil _ _
theorem pathOf_len (e : Pt) : ∀ (bs : List Bd) (A : Pt), (pathOf e A bs).length ≤ bs.length + 1
  | [], A => by
    unfold pathOf
    split <;> simp
  | b :: bs, A => by
    have := pathOf_len e bs b.1
    simp only [pathOf, List.length_cons]
    omega
theorem bds_len (gates : List Gate) (e : Pt) : ∀ (f : Nat) (A : Pt) (first : Nat), (bds gates e f A first).length ≤ f
  | 0, _, _ => Nat.le_refl _
  | f + 1, A, first => by
    unfold bds
    split
    · simp
    · rename_i b _
      have := bds_len gates e f b.1 (b.2 + 1)
      simp only [List.length_cons]
      omega
theorem taut_len (s : Pt) (gates : List Gate) (e : Pt) : (tautPts s gates e).length ≤ gates.length + 3 := by
  unfold tautPts
  have h1 := prune_len (pathOf e s (bds gates e (gates.length + 1) s 0)) s
  have h2 := pathOf_len e (bds gates e (gates.length + 1) s 0) s
  have h3 := bds_len gates e (gates.length + 1) s 0
  rw [List.length_cons]
  omega
def spLaw (K : Fg) : Sp := fun vs H Q _ => ∃ (a : Addr) (ns : List Int), vs = [.ref a] ∧ SqL K H a (ns.map V.int) ∧ ns.length ≤ 63 ∧ ∀ H', Q (.bl true) H'
section
variable {P : Program} {w : World} {K : Fg} {mg : Str → Option Value} {base : Heap}
abbrev NLaw : List Str := ["_law_script", "_law_state_here", "_law_start", "_law_gates", "_law_end", "_law_points", "_law_bends", "_law_scale", "_law_low", "_law_row", "_law_told", "_law_due", "_law_parts", "_law_up", "_law_k", "_law_part"]
theorem scLaw : FnScope NLaw ["_law_script"] (defScope sLaw) := ⟨rfl, rfl, rfl, by decide +kernel, rfl, by decide +kernel, by decide +kernel⟩
theorem ok_law {f : Addr} {fd : FuncData} (F : Fun K "law" "law" sLaw f fd) (OSt : Own P w K mg base "_law_state" ["_law_script"] 1 (spState K)) (OCo : Own P w K mg base "_law_corridor" ["_law_state_here", "_law_most"] 4 (spCorr K))
    (OT : Own P w K mg base "taut" ["start", "gates", "end"] 5 (spTaut K)) (OLe : Own P w K mg base "_law_length" ["_law_points", "_law_scale"] 2 (spLlen K)) (OSs : Own P w K mg base "_law_strings" ["_law_state_here", "_law_start", "_law_gates", "_law_end"] 3 (spStrs K))
    (OD : Own P w K mg base "_law_draw" ["_law_state_here", "_law_many"] 1 spDraw) (OB : Own P w K mg base "length_bounds" ["points", "scale"] 2 (spLb K)) (ml : mg "len" = none) (mr : mg "range" = none) (misi : mg "isinstance" = none) (mtup : mg "tuple" = none) :
    FnOk P w K mg base CX0 6 f fd ["_law_script"] (spLaw K) := by
  refine F.ok scLaw (fun vs H Q E h => ?_) (fun cdv Ar outer s_ H vs Q E hr h => ?_)
  · obtain ⟨a, ns, rfl, _⟩ := h
    rfl
  · obtain ⟨a, ns, rfl, hA, hlen, k⟩ := h
    have hr1 : Room 1 _ := hr.mono (by decide)
    have hr2 : Room 2 _ := hr.mono (by decide)
    have hr3 : Room 3 _ := hr.mono (by decide)
    have hr4 : Room 4 _ := hr.mono (by decide)
    have hr5 : Room 5 _ := hr
    refine ⟨_, (pss_cons (ps_set (i := 1) scLaw.nd rfl (Or.inl rfl) (pe_own OSt hr1 (by rfl) (pa_cons (pv 0) pa_nil))) (pss_cons (ps_asg (pe_own OCo hr4 (by rfl) (pa_cons (pv 1) (pa_cons pe_int pa_nil))) (pg_unl rfl (pgs_cons (pg_name (i := 2) scLaw.nd rfl (Or.inl rfl)) (pgs_cons (pg_name (i := 3) scLaw.nd rfl (Or.inl rfl)) (pgs_cons (pg_name (i := 4) scLaw.nd rfl (Or.inl rfl)) pgs_nil))))) (pss_cons (ps_asg (pe_own OT hr5 (by rfl) (pa_cons (pv 2) (pa_cons (pv 3) (pa_cons (pv 4) pa_nil)))) (pg_tup rfl (pgs_cons (pg_name (i := 5) scLaw.nd rfl (Or.inr rfl)) (pgs_cons (pg_name (i := 6) scLaw.nd rfl (Or.inl rfl)) pgs_nil)))) (pss_cons (ps_set (i := 7) scLaw.nd rfl (Or.inr rfl) pe_int) (pss_cons (ps_set (i := 8) scLaw.nd rfl (Or.inl rfl) (pe_ix ix_list (pe_own OLe hr2 (by rfl) (pa_cons (pv 5) (pa_cons (pe_op op_mul pe_int (pv 7)) pa_nil))) pe_int (fun _ _ => rfl))) (pss_cons (ps_for PassesOwn.never rfl (pi_list (pe_own OSs hr3 (by rfl) (pa_cons (pv 1) (pa_cons (pv 2) (pa_cons (pv 3) (pa_cons (pv 4) pa_nil)))))) (pg_name (i := 9) scLaw.nd rfl (Or.inl rfl)) (pss_one (ps_if (pt_cmpR op_lt (pe_op op_add (pe_ix ix_list (pe_own OLe hr2 (by rfl) (pa_cons (pv 9) (pa_cons (pv 7) pa_nil))) pe_int (fun _ _ => rfl)) (pe_callB call_len_seq (by rfl) ml PySem.boot_len (pa_cons (pv 9) pa_nil))) (pv 8) (nomark _)) (pss_one (ps_ret pe_bl)) pss_nil))) (pss_cons (ps_for PassesOwn.never rfl (pi_list (pe_lst (pa_cons pe_int (pa_cons pe_int (pa_cons (pe_op op_add pe_int (pe_own OD hr1 (by rfl) (pa_cons (pv 1) (pa_cons pe_int pa_nil)))) pa_nil))))) (pg_name (i := 7) scLaw.nd rfl (Or.inr rfl)) (pss_cons (ps_set (i := 10) scLaw.nd rfl (Or.inl rfl) (pe_own OB hr2 (by rfl) (pa_cons (pv 5) (pa_cons (pv 7) pa_nil)))) (pss_cons (ps_set (i := 11) scLaw.nd rfl (Or.inl rfl) (pe_ix ix_list (pe_own OLe hr2 (by rfl) (pa_cons (pv 5) (pa_cons (pv 7) pa_nil))) pe_int (fun _ _ => rfl))) (pss_cons (ps_setLc (i := 12) (own := [("_law_k", 14)]) rfl scLaw.nd rfl rfl (sw_true rfl rfl rfl (by decide +kernel)) (pi_range1 (by rfl) mr (pa_cons (pe_op op_sub (pe_callB call_len_seq (by rfl) ml PySem.boot_len (pa_cons (pv 5) pa_nil)) pe_int) pa_nil)) (blkOk_by (own := [("_law_k", 14)]) (N := NLaw) (sc := defScope sLaw) (by decide +kernel)) (fun _ _ _ _ _ => (pg_name (i := 14) scLaw.nd rfl (Or.inl rfl))) (fun _ _ _ _ _ => pts_nil) (fun _ _ _ _ _ => (pe_own OLe hr2 (by rfl) (pa_cons (pe_slice (sl_listB (K := K) rfl) (pv 5) (po_some (pv 14)) (po_some (pe_op op_add (pv 14) pe_int))) (pa_cons (pv 7) pa_nil))))) (pss_cons (ps_set (i := 13) scLaw.nd rfl (Or.inl rfl) (pe_op op_add (pv 11) (pe_callB call_len_seq (by rfl) ml PySem.boot_len (pa_cons (pe_lc (own := [("_law_part", 15)]) rfl scLaw.nd (pi_list (pv 12)) (blkOk_by (own := [("_law_part", 15)]) (N := NLaw) (sc := defScope sLaw) (by decide +kernel)) (fun _ _ _ _ _ => (pg_name (i := 15) scLaw.nd rfl (Or.inl rfl))) (fun _ _ _ _ _ => (pts_one (pt_not (pt_val (pe_ix (ix_listB (K := K) rfl) (pv 15) pe_int (fun _ _ => rfl)))))) (fun _ _ _ _ _ => (pv 15))) pa_nil)))) (pss_one (ps_if (PW.pt (pw_or (pt_not (pt_val (pe_callB call_isi (by rfl) misi PyProof.Rows.boot_isinstance (pa_cons (pv 10) (pa_cons (pe_bltn (v := .ty "tuple") (u := .type "tuple") (by rfl) mtup PyProof.Rows.boot_tuple rfl) pa_nil))))) (pw_or1 (pt_cmpR (op_neD hr.units) (pv 10) (pe_tup (pa_cons (pv 11) (pa_cons (pv 13) pa_nil))) (nomark _))))) (pss_one (ps_ret pe_bl)) pss_nil))))))) (pss_one (ps_ret pe_bl))))))))), ?_⟩
    -- the state, the corridor
    refine ⟨_, rfl, a, ns, rfl, hA, hlen, fun H1 sa ca x1 st1 => ?_⟩
    refine ⟨_, rfl, sa, ca, rfl, st1, fun H2 l va gl ve s e gates st2 x2 hl hs hg he hok => ⟨l, _, rfl, sq_of hl, rfl, _, _, rfl, _, _, rfl, _, _, rfl, rfl, ?_⟩⟩
    -- the taut string
    unfold tAsg
    have hg2 : LstG K H2 gl gates := hg.mono hd_sub
    refine (evx_call (σ := [some (.ref a), some (.ref sa), some va, some (.ref gl), some ve, none, none, none, none, none, none, none, none, none, none, none]) (E := E0) (dvs := []) (H := H2) (tA := tCons (tVar 2) (tCons (tVar 3) (tCons (tVar 4) tNil))) (ea_cons (ev_var rfl) (ea_cons (ev_var rfl) (ea_cons (ev_var rfl) ea_nil))) (spx_taut (hs.mono hd_sub) hg2 (he.mono hd_sub) hok.sms.sm hok.sme.sm (by have := hok.len; omega))) H2 (Evl.Ex.refl H2) _ fun v H3 x3 hv => ?_
    obtain ⟨t, pl, bl, rfl, ht, hP⟩ := hv
    have hne := taut_ne s gates e
    have hpl : (tautPts s gates e).length ≤ 1000 := by
      have := taut_len s gates e
      have := hok.len
      omega
    have hbest : ∀ r, OnRow e gates r → ¬ sumP (lw 1000000000) (dbl s :: r) + ((dbl s :: r).length : Int) < sumP (lw (2 * 1000000000)) (tautPts s gates e) := fun r hr => not_shorter hok hr
    generalize hpts : tautPts s gates e = pts at hP hne hpl hbest
    have st3 := st2.ex x3
    refine ⟨t, _, rfl, st_of ht, rfl, _, _, rfl, _, _, rfl, rfl, ?_⟩
    -- scale, low
    refine q_asg ev_c fun H4 x4 => ?_
    have hP4 := hP.mono x4
    have st4 := st3.ex x4
    have llen : ∀ {σ : L2.St} {H : Hp} {te ts : TE} {a : Addr} {pts : List Pt} {S : Int}, LstP K H a pts → pts ≠ [] → pts.length ≤ 1000 → 0 ≤ S → S ≤ 2000000000 → Ev te σ H (.ref a) → Ev ts σ H (.int S) →
        Ev (tOp (rIxL K) (tCall (spLlen K) [] E0 (tCons te (tCons ts tNil))) (tC (.int 0))) σ H (.int (sumP (lw S) pts)) := fun h1 h2 h3 h4 h5 h6 h7 =>
      ev_opL1 (el_call (ea_cons h6 (ea_cons h7 ea_nil)) (spl_llen h1 h2 h3 h4 h5)) (fun _ _ => ev_c) (fun p H1 hp _ => rv_ixL (sq_of hp) (atI_nat (j := 0) rfl))
    refine q_asg (llen hP4 hne hpl (by decide) (by decide) (ev_var rfl) (ev_op ev_c (ev_var rfl) (rv_I (.inl ⟨by decide, by decide⟩)))) fun H5 x5 => ?_
    have st5 := st4.ex x5
    have x25 := (x3.trans x4).trans x5
    -- for row in strings(..)
    refine ⟨_, rfl, _, rfl, _, rfl, _, rfl, sa, ca, va, gl, ve, s, e, gates, rfl, st5, hs.mono (hd_ex x25), hg.mono (hd_ex x25), he.mono (hd_ex x25), hok, fun H6 rl rvs rows st6 x6 n1 n2 hrl hrA hrlen hrows => ⟨rl, rfl, ⟨rvs, sq_of hrl⟩, ?_⟩⟩
    have hP6 : LstP K H6 pl pts := (((hP4.mono x5).hd st5 hne).mono x6).mono hd_sub
    refine for_list (K := K) (a := rl) (xs := rvs) (fun i σ H' => ∃ y9, σ = [some (.ref a), some (.ref sa), some va, some (.ref gl), some ve, some (.ref pl), some (.ref bl), some (.int 1000000000), some (.int (sumP (lw (2 * 1000000000)) pts)), y9, none, none, none, none, none, none] ∧ Ex H6 H')
      ⟨none, rfl, Evl.Ex.refl H6⟩ (fun i σ H' _ hW => by obtain ⟨_, _, x⟩ := hW; exact sq_of (x _ _ hrl)) (fun i x σ H7 hi hW => ?_) (fun σ H7 hW => ?_)
    · obtain ⟨y9, rfl, x7⟩ := hW
      obtain ⟨row, erow, ra, rfl, m1, m2, hrow⟩ := hrA.getV hi
      obtain ⟨r, er, hon⟩ := hrows row (List.mem_of_getElem? erow)
      obtain ⟨rxs, hrx, hrP⟩ := hrow
      have hrxl := hrP.len
      have smr : ∀ p ∈ row, Sm p := by
        have aux : ∀ (gs : List Gate) (r : List Pt), (∀ g ∈ gs, Sm4 g.1 ∧ Sm4 g.2) → OnRow e gs r → ∀ p ∈ r, Sm p := by
          intro gs
          induction gs with
          | nil =>
            intro r _ h p hp
            have h : r = [dbl e] := h
            subst h
            rw [List.mem_singleton.mp hp]
            have := hok.sme
            unfold Sm4 at this
            unfold Sm dbl
            simp only []
            omega
          | cons g gs ih =>
            intro r hg h p hp
            cases r with
            | nil => exact h.elim
            | cons q r =>
              rcases List.mem_cons.mp hp with rfl | hp
              · obtain ⟨h1, h2⟩ := hg g (List.mem_cons_self ..)
                exact onG_sm h1 h2 h.1
              · exact ih r (fun g' h' => hg g' (List.mem_cons_of_mem _ h')) h.2 p hp
        intro p hp
        rw [er] at hp
        rcases List.mem_cons.mp hp with rfl | hp
        · have := hok.sms
          unfold Sm4 at this
          unfold Sm dbl
          simp only []
          omega
        · exact aux gates r hok.smg hon p hp
      have rl1 : row.length ≤ 1000 := by
        have aux : ∀ (gs : List Gate) (r : List Pt), OnRow e gs r → r.length = gs.length + 1 := by
          intro gs
          induction gs with
          | nil =>
            intro r h
            have h : r = [dbl e] := h
            rw [h]; rfl
          | cons g gs ih =>
            intro r h
            cases r with
            | nil => exact h.elim
            | cons q r => rw [List.length_cons, List.length_cons, ih r h.2]
        have := aux gates r hon
        have := hok.len
        rw [er, List.length_cons]
        omega
      have hrL : LstP K H7 ra row := RowL.lstP ⟨rxs, x7 _ _ hrx, hrP.imp fun _ _ z => z.mono x7⟩ smr
      have hlt : decide (sumP (lw 1000000000) row + (rxs.length : Int) < sumP (lw (2 * 1000000000)) pts) = false := by
        have := hbest r hon
        rw [← er] at this
        rw [hrxl]
        exact decide_eq_false this
      refine s_when (b := false) (et_is (et_test (ev_op (ev_op (llen hrL (by rw [er]; exact List.cons_ne_nil _ _) rl1 (by decide) (by decide) (ev_var rfl) (ev_var rfl)) (ev_len (ev_var rfl) (sq_of (x7 _ _ hrx))) rv_I0) (ev_var rfl) rv_I0)) hlt) (fun q => by cases q) (fun _ H8 x8 => ?_)
      exact ⟨_, rfl, x7.trans x8⟩
    · obtain ⟨y9, rfl, x7⟩ := hW
      have st7 := st6.ex x7
      have hP7 := hP6.mono x7
      -- for scale in [1, 10, 1 + draw(..)]
      refine ⟨_, rfl, sa, ca, _, rfl, st7, by decide, by decide, fun H8 d8 st8 x8 d80 d81 => ⟨_, _, rfl, rfl, by show 3 ≤ sizeLine; decide, fun sl nsl => ⟨sl, rfl, ⟨_, sq_of upd_same⟩, ?_⟩⟩⟩
      have hP8 : LstP K (upd H8 sl (.lst [.int 1, .int 10, .int (1 + d8)])) pl pts := (((hP7.hd st7 hne).mono x8).mono hd_sub).mono (Evl.Ex.new nsl)
      generalize hH9 : upd H8 sl (.lst [.int 1, .int 10, .int (1 + d8)]) = H9 at hP8
      have hsl : H9 sl = some (.lst [.int 1, .int 10, .int (1 + d8)]) := by rw [← hH9]; exact upd_same
      obtain ⟨⟨pxs, hpx, hpA⟩, hsm⟩ := id hP8
      have hpl2 := hpA.len
      have hl1 := len_pos hne
      refine for_list (K := K) (a := sl) (xs := [.int 1, .int 10, .int (1 + d8)]) (fun i σ H' => ∃ y7 y9 y10 y11 y12 y13 y14 y15, σ = [some (.ref a), some (.ref sa), some va, some (.ref gl), some ve, some (.ref pl), some (.ref bl), y7, some (.int (sumP (lw (2 * 1000000000)) pts)), y9, y10, y11, y12, y13, y14, y15] ∧ Ex H9 H')
        ⟨_, _, none, none, none, none, none, none, rfl, Evl.Ex.refl H9⟩ (fun i σ H' _ hW => by obtain ⟨_, _, _, _, _, _, _, _, _, x⟩ := hW; exact sq_of (x _ _ hsl)) (fun i x σ H10 hi hW => ?_) (fun σ H10 hW => ?_)
      · obtain ⟨y7, y9, y10, y11, y12, y13, y14, y15, rfl, x10⟩ := hW
        obtain ⟨S, rfl, S0, S1⟩ : ∃ S : Int, x = .int S ∧ 0 ≤ S ∧ S ≤ 100000 := by
          have hm := List.mem_of_getElem? hi
          simp only [List.mem_cons, List.not_mem_nil, or_false] at hm
          rcases hm with rfl | rfl | rfl
          · exact ⟨1, rfl, by decide, by decide⟩
          · exact ⟨10, rfl, by decide, by decide⟩
          · exact ⟨1 + d8, rfl, by omega, by omega⟩
        have hP10 := hP8.mono x10
        have hpx10 := ex_l x10 hpx
        -- told, due
        refine q_asgN (evn_call (ea_cons (ev_var rfl) (ea_cons (ev_var rfl) ea_nil)) (spu_lb hP10 hne hpl S0 (by omega))) fun tp H11 _ x11 htp => ?_
        refine q_asg (llen (hP10.mono x11) hne hpl S0 (by omega) (ev_var rfl) (ev_var rfl)) fun H12 x12 => ?_
        have x02 := (x10.trans x11).trans x12
        have hpx12 := ex_l x02 hpx
        -- parts
        refine q_asgN (evn_lcR (n := (pxs.length : Int) - 1) (j := 14) (vs := [14]) (fun a (b : Bool) H => ∃ i, H a = some (.lst [.int i, .bl b])) (fun k => exAt (exq S) pts k) (fun a d H H' e h => by obtain ⟨i, h⟩ := h; exact ⟨i, e _ _ h⟩) (fun a d H D acc o n hD h => by obtain ⟨i, h⟩ := h; exact ⟨i, by rw [upd_ne n]; exact h⟩)
          (ea_cons (ev_op (ev_len (ev_var rfl) hpx12) ev_c rv_I0) ea_nil) (by omega) (by omega) (fun kk H13 hk x13 => ⟨rfl, ?_⟩)) fun pa H13 _ x13 hpa => ?_
        · obtain ⟨p, q, e1, e2, m1, m2⟩ := two_pts (pts := pts) (i := kk) hne (by omega)
          obtain ⟨vp, f1, r1⟩ := hpA.get e1
          obtain ⟨vq, f2, r2⟩ := hpA.get e2
          rw [exAt_of e1 e2]
          intro H14 x14 Q' q'
          have x04 := (x02.trans x13).trans x14
          refine (el_sl (K := K) (te := tVar 5) (tl := tPart (tVar 14)) (th := tPart (tOp (rI0 fun i j => .int (i + j)) (tVar 14) (tC (.int 2)))) (lo := some (kk : Int)) (hi := some ((kk : Int) + 2)) (H := H14) (ev_var rfl) (eo_some (ev_var rfl)) (eo_some (ev_op (ev_var rfl) ev_c rv_I0)) (ex_l x04 hpx)) H14 (Evl.Ex.refl H14) _ fun cl H15 ncl x15 hcl => ?_
          rw [cut_two f1 f2] at hcl
          have x05 := x04.trans x15
          refine ⟨_, rfl, cl, [p, q], S, rfl, ⟨⟨[vp, vq], sq_of hcl, .cons (r1.mono x05) (.cons (r2.mono x05) .nil)⟩, ?_⟩, List.cons_ne_nil _ _, by show 2 ≤ 1000; decide, S0, by omega, fun b H16 nb x16 hb => q' b H16 (fresh_back x15 nb) (x15.trans x16) ⟨sumP (lw S) [p, q], ?_⟩⟩
          · intro z hz
            simp only [List.mem_cons, List.not_mem_nil, or_false] at hz
            rcases hz with rfl | rfl
            · exact hsm _ m1
            · exact hsm _ m2
          · rw [hb]
            simp only [allP, Bool.and_true]
        · obtain ⟨ps, hps, hpsA⟩ := hpa
          have hpsl := hpsA.len
          rw [List.length_map, List.length_range] at hpsl
          -- up
          have cnt : (given ps.length (fun k => !exAt (exq S) pts k) (fun k => ps.getD k .non)).length = notEx (exq S) pts := by
            unfold given
            rw [List.length_map, ← notEx_count]
            congr 3
            omega
          refine q_asg (v := .int (sumP (hw S) pts)) (ev_is (ev_op (ev_var rfl) (ev_lenN (el_lcL (K := K) (tl := tVar 12) (j := 15) (vs := [15]) (t := tNot (tB (tOp (rIxL K) (tVar 15) (tC (.int 1))))) (te := tVar 15) (fun k => !exAt (exq S) pts k) (fun k => ps.getD k .non) (ev_var rfl) (sq_of hps) (by omega) (fun x => rfl)
            (fun i x H1 e1 hi => ?_) (fun i x H1 e1 hi _ => ?_))) rv_I0) ?_) fun H14 x14 => ?_
          · obtain ⟨b, eb, c, rfl, j, hc⟩ := hpsA.getV hi
            have eb2 : exAt (exq S) pts i = b := by
              rw [List.getElem?_map] at eb
              have hi2 := (List.getElem?_eq_some_iff.mp hi).1
              rw [List.getElem?_range (by omega)] at eb
              exact Option.some.inj eb
            rw [eb2]
            exact et_not (et_B (ev_op (ev_var rfl) ev_c (rv_ixL (sq_of (e1 _ _ hc)) (atI_nat (j := 1) rfl))))
          · rw [List.getD_eq_getElem?_getD, hi]
            exact ev_var rfl
          · rw [cnt, hw_sum]
          · -- told == (due, up)
            have htp14 := ((x12.trans x13).trans x14) _ _ htp
            refine s_when (b := false) (et_is (et_or (et_not (et_B (ev_cb (ea_cons (ev_var rfl) (ea_cons ev_c ea_nil)) (rc_isi htp14)))) (fun _ => et_test (ev_opU (ev_var rfl) (eu_tup (ea_cons (ev_var rfl) (ea_cons (ev_var rfl) ea_nil)) (by show 2 ≤ 100000; decide)) (fun q H1 hq e1 => rv_ne2 (e1 _ _ htp14) hq)))) rfl) (fun q => by cases q) (fun _ H15 x15 => ?_)
            exact ⟨_, _, _, _, _, _, _, _, rfl, ((x02.trans x13).trans x14).trans x15⟩
      · obtain ⟨y7, y9, y10, y11, y12, y13, y14, y15, rfl, x10⟩ := hW
        exact k H10
end
end FW
namespace FW
open PySem PySem.Spec PyProof.Rows L2 FP
/-- a def as the top has left it -/
structure Laid (K : Fg) (x qual : Str) (st : Stmt) (f : Addr) : Prop where
  lk : ∃ (oc : Value) (od : Option Addr) (kV dc pm : Value) (an : Option Addr) (cd ct : Value) (sl : Array (Option Value)), K.lookup f = some ⟨oc, od, .func (PySem.W.fnOf x qual (defArgs st) (defBody st) (defScope st) .none kV dc pm an cd ct), sl⟩ ∧ PySem.W.codeIn K cd qual = true
  kp : PySem.W.keepIn K (.ref f) = true
theorem Laid.fd {K : Fg} {x qual : Str} {st : Stmt} {f : Addr} (h : Laid K x qual st f) : ∃ fd, Fun K x qual st f fd := by
  obtain ⟨oc, od, kV, dc, pm, an, cd, ct, sl, l, c⟩ := h.lk
  exact ⟨_, fun_mk l c h.kp⟩
theorem laid {K : Fg} {x qual : Str} {st : Stmt} {f : Addr} {oc : Value} {od an : Option Addr} {sl : Array (Option Value)} {kV dc pm cd ct : Value} (l : K.lookup f = some ⟨oc, od, .func (PySem.W.fnOf x qual (defArgs st) (defBody st) (defScope st) .none kV dc pm an cd ct), sl⟩)
    (c : PySem.W.codeIn K cd qual = true) (k : PySem.W.keepIn K (.ref f) = true) : Laid K x qual st f := ⟨⟨oc, od, kV, dc, pm, an, cd, ct, sl, l, c⟩, k⟩
theorem all_mk {l : PySem.W.OpenLaw} {w : World} {K : Fg} {h : Heap} {mg : Str → Option Value} {fa C fI fM fN f_cross f_distance f_on_gate f_nearer f_next_bend f_is_straight f_without_straight f_taut f_root f_length_bounds f__law_state f__law_draw f__law_pick f__law_side f__law_next f__law_point f__law_corridor f__law_root f__law_length f__law_on f__law_strings f_law : Addr} (X : K.In h) (G : h.Ns mainGlobals mg) (hfa : mg "law" = some (.ref fa))
    (a_cross : PySem.W.nsIn K mainGlobals "cross" = some (some (.ref f_cross))) (l_cross : Laid K "cross" "cross" sCross f_cross)
    (a_distance : PySem.W.nsIn K mainGlobals "distance" = some (some (.ref f_distance))) (l_distance : Laid K "distance" "distance" sDist f_distance)
    (a_on_gate : PySem.W.nsIn K mainGlobals "on_gate" = some (some (.ref f_on_gate))) (l_on_gate : Laid K "on_gate" "on_gate" sOn f_on_gate)
    (a_nearer : PySem.W.nsIn K mainGlobals "nearer" = some (some (.ref f_nearer))) (l_nearer : Laid K "nearer" "nearer" sNear f_nearer)
    (a_next_bend : PySem.W.nsIn K mainGlobals "next_bend" = some (some (.ref f_next_bend))) (l_next_bend : Laid K "next_bend" "next_bend" sNb f_next_bend)
    (a_is_straight : PySem.W.nsIn K mainGlobals "is_straight" = some (some (.ref f_is_straight))) (l_is_straight : Laid K "is_straight" "is_straight" sStr f_is_straight)
    (a_without_straight : PySem.W.nsIn K mainGlobals "without_straight" = some (some (.ref f_without_straight))) (l_without_straight : Laid K "without_straight" "without_straight" sWs f_without_straight)
    (a_taut : PySem.W.nsIn K mainGlobals "taut" = some (some (.ref f_taut))) (l_taut : Laid K "taut" "taut" sTaut f_taut)
    (a_root : PySem.W.nsIn K mainGlobals "root" = some (some (.ref f_root))) (l_root : Laid K "root" "root" sRoot f_root)
    (a_length_bounds : PySem.W.nsIn K mainGlobals "length_bounds" = some (some (.ref f_length_bounds))) (l_length_bounds : Laid K "length_bounds" "length_bounds" sLb f_length_bounds)
    (a__law_state : PySem.W.nsIn K mainGlobals "_law_state" = some (some (.ref f__law_state))) (l__law_state : Laid K "_law_state" "_law_state" sState f__law_state)
    (a__law_draw : PySem.W.nsIn K mainGlobals "_law_draw" = some (some (.ref f__law_draw))) (l__law_draw : Laid K "_law_draw" "_law_draw" sDraw f__law_draw)
    (a__law_pick : PySem.W.nsIn K mainGlobals "_law_pick" = some (some (.ref f__law_pick))) (l__law_pick : Laid K "_law_pick" "_law_pick" sPick f__law_pick)
    (a__law_side : PySem.W.nsIn K mainGlobals "_law_side" = some (some (.ref f__law_side))) (l__law_side : Laid K "_law_side" "_law_side" sSide f__law_side)
    (a__law_next : PySem.W.nsIn K mainGlobals "_law_next" = some (some (.ref f__law_next))) (l__law_next : Laid K "_law_next" "_law_next" sNext f__law_next)
    (a__law_point : PySem.W.nsIn K mainGlobals "_law_point" = some (some (.ref f__law_point))) (l__law_point : Laid K "_law_point" "_law_point" sPoint f__law_point)
    (a__law_corridor : PySem.W.nsIn K mainGlobals "_law_corridor" = some (some (.ref f__law_corridor))) (l__law_corridor : Laid K "_law_corridor" "_law_corridor" sCorr f__law_corridor)
    (a__law_root : PySem.W.nsIn K mainGlobals "_law_root" = some (some (.ref f__law_root))) (l__law_root : Laid K "_law_root" "_law_root" sLroot f__law_root)
    (a__law_length : PySem.W.nsIn K mainGlobals "_law_length" = some (some (.ref f__law_length))) (l__law_length : Laid K "_law_length" "_law_length" sLlen f__law_length)
    (a__law_on : PySem.W.nsIn K mainGlobals "_law_on" = some (some (.ref f__law_on))) (l__law_on : Laid K "_law_on" "_law_on" sLon f__law_on)
    (a__law_strings : PySem.W.nsIn K mainGlobals "_law_strings" = some (some (.ref f__law_strings))) (l__law_strings : Laid K "_law_strings" "_law_strings" sStrs f__law_strings)
    (a_law : PySem.W.nsIn K mainGlobals "law" = some (some (.ref f_law))) (l_law : Laid K "law" "law" sLaw f_law)
    (afI : PySem.W.findIn K (.ref C) "__init__" = some (some (.ref fI))) (ifI : PySem.W.isFn K (.ref fI) = true) (lfI : Laid K "__init__" "Funnel.__init__" sInit fI)
    (afM : PySem.W.findIn K (.ref C) "misses" = some (some (.ref fM))) (ifM : PySem.W.isFn K (.ref fM) = true) (lfM : Laid K "misses" "Funnel.misses" sMiss fM)
    (afN : PySem.W.findIn K (.ref C) "narrow" = some (some (.ref fN))) (ifN : PySem.W.isFn K (.ref fN) = true) (lfN : Laid K "narrow" "Funnel.narrow" sNarr fN)
    (aC : PySem.W.nsIn K mainGlobals "Funnel" = some (some (.ref C))) (pg : PySem.W.plainGet K C Str.empty = true) (hdi : PySem.W.hasDictIn K C = true) (po : PySem.W.plainOver K C = true) (sat : PySem.W.findIn K (.ref C) "__setattr__" = some (some (.builtin "object.__setattr__"))) (mk : PySem.W.makesIn K C = true) (kc : PySem.W.keepIn K (.ref C) = true)
    (nA : PySem.W.findIn K (.ref C) "apex" = some none) (nL : PySem.W.findIn K (.ref C) "left" = some none) (nR : PySem.W.findIn K (.ref C) "right" = some none)
    (z_len : PySem.W.nsIn K mainGlobals "len" = some none)
    (z_range : PySem.W.nsIn K mainGlobals "range" = some none)
    (z_int : PySem.W.nsIn K mainGlobals "int" = some none)
    (z_abs : PySem.W.nsIn K mainGlobals "abs" = some none)
    (z_max : PySem.W.nsIn K mainGlobals "max" = some none)
    (z_isinstance : PySem.W.nsIn K mainGlobals "isinstance" = some none)
    (z_tuple : PySem.W.nsIn K mainGlobals "tuple" = some none)
    : ∃ fd : FuncData, (∀ (s : Shared) (v : Value), BindsTo s fd ⟨[v], []⟩ [("_law_script", v)]) ∧ ∀ base : Heap, K.In base → base.Ns mainGlobals mg → FnOk l.prog w K mg base CX0 6 fa fd ["_law_script"] (spLaw K) := by
  have e := hfa.symm.trans (PySem.W.mg_of X G a_law)
  cases e
  have m_len := PySem.W.mg_none_of X G z_len
  have m_range := PySem.W.mg_none_of X G z_range
  have m_int := PySem.W.mg_none_of X G z_int
  have m_abs := PySem.W.mg_none_of X G z_abs
  have m_max := PySem.W.mg_none_of X G z_max
  have m_isinstance := PySem.W.mg_none_of X G z_isinstance
  have m_tuple := PySem.W.mg_none_of X G z_tuple
  obtain ⟨dfI, FI⟩ := lfI.fd
  have bI := FI.binds (ps := ["self", "apex"]) fun _ _ _ _ _ _ us hl => match us, hl with | [_, _], _ => rfl
  obtain ⟨dfM, FM⟩ := lfM.fd
  have bM := FM.binds (ps := ["self", "left", "right"]) fun _ _ _ _ _ _ us hl => match us, hl with | [_, _, _], _ => rfl
  obtain ⟨dfN, FN⟩ := lfN.fd
  have bN := FN.binds (ps := ["self", "ends", "at"]) fun _ _ _ _ _ _ us hl => match us, hl with | [_, _, _], _ => rfl
  have T : FT K mg C fI fM fN := ⟨⟨pg, hdi, po, sat⟩, nA, nL, nR, PySem.W.mg_of X G aC, ⟨mk, afI, ifI, kc⟩, ⟨afM, ifM, lfM.kp⟩, ⟨afN, ifN, lfN.kp⟩⟩
  obtain ⟨d_cross, F_cross⟩ := l_cross.fd
  have b_cross := F_cross.binds (ps := ["a", "b", "c"]) fun _ _ _ _ _ _ us hl => match us, hl with | [_, _, _], _ => rfl
  have O_cross : ∀ base, Own l.prog w K mg base "cross" ["a", "b", "c"] 1 (spCross K) := fun base => ⟨f_cross, d_cross, ok_cross F_cross, PySem.W.mg_of X G a_cross, l_cross.kp, b_cross⟩
  obtain ⟨d_distance, F_distance⟩ := l_distance.fd
  have b_distance := F_distance.binds (ps := ["a", "b"]) fun _ _ _ _ _ _ us hl => match us, hl with | [_, _], _ => rfl
  have O_distance : ∀ base, Own l.prog w K mg base "distance" ["a", "b"] 1 (spDist K) := fun base => ⟨f_distance, d_distance, ok_dist F_distance, PySem.W.mg_of X G a_distance, l_distance.kp, b_distance⟩
  obtain ⟨d_on_gate, F_on_gate⟩ := l_on_gate.fd
  have b_on_gate := F_on_gate.binds (ps := ["ends", "point"]) fun _ _ _ _ _ _ us hl => match us, hl with | [_, _], _ => rfl
  have O_on_gate : ∀ base, Own l.prog w K mg base "on_gate" ["ends", "point"] 2 (spOn K) := fun base => ⟨f_on_gate, d_on_gate, ok_on F_on_gate (O_cross base) (O_distance base), PySem.W.mg_of X G a_on_gate, l_on_gate.kp, b_on_gate⟩
  obtain ⟨d_nearer, F_nearer⟩ := l_nearer.fd
  have b_nearer := F_nearer.binds (ps := ["ends", "point"]) fun _ _ _ _ _ _ us hl => match us, hl with | [_, _], _ => rfl
  have O_nearer : ∀ base, Own l.prog w K mg base "nearer" ["ends", "point"] 2 (spNear K) := fun base => ⟨f_nearer, d_nearer, ok_near F_nearer (O_distance base), PySem.W.mg_of X G a_nearer, l_nearer.kp, b_nearer⟩
  obtain ⟨d_next_bend, F_next_bend⟩ := l_next_bend.fd
  have b_next_bend := F_next_bend.binds (ps := ["apex", "gates", "first", "end"]) fun _ _ _ _ _ _ us hl => match us, hl with | [_, _, _, _], _ => rfl
  have O_next_bend : ∀ base, Own l.prog w K mg base "next_bend" ["apex", "gates", "first", "end"] 4 (spNb K) := fun base => ⟨f_next_bend, d_next_bend, ok_nb F_next_bend T (ok_init FI T) bI (ok_miss FM T (O_cross base)) bM (ok_narr FN T (O_cross base)) bN (O_cross base) (O_on_gate base) (O_nearer base) m_len m_range, PySem.W.mg_of X G a_next_bend, l_next_bend.kp, b_next_bend⟩
  obtain ⟨d_is_straight, F_is_straight⟩ := l_is_straight.fd
  have b_is_straight := F_is_straight.binds (ps := ["a", "b", "c"]) fun _ _ _ _ _ _ us hl => match us, hl with | [_, _, _], _ => rfl
  have O_is_straight : ∀ base, Own l.prog w K mg base "is_straight" ["a", "b", "c"] 2 (spStr K) := fun base => ⟨f_is_straight, d_is_straight, ok_str F_is_straight (O_cross base), PySem.W.mg_of X G a_is_straight, l_is_straight.kp, b_is_straight⟩
  obtain ⟨d_without_straight, F_without_straight⟩ := l_without_straight.fd
  have b_without_straight := F_without_straight.binds (ps := ["points", "bends"]) fun _ _ _ _ _ _ us hl => match us, hl with | [_, _], _ => rfl
  have O_without_straight : ∀ base, Own l.prog w K mg base "without_straight" ["points", "bends"] 3 (spWs K) := fun base => ⟨f_without_straight, d_without_straight, ok_ws F_without_straight (O_is_straight base) m_len m_range, PySem.W.mg_of X G a_without_straight, l_without_straight.kp, b_without_straight⟩
  obtain ⟨d_taut, F_taut⟩ := l_taut.fd
  have b_taut := F_taut.binds (ps := ["start", "gates", "end"]) fun _ _ _ _ _ _ us hl => match us, hl with | [_, _, _], _ => rfl
  have O_taut : ∀ base, Own l.prog w K mg base "taut" ["start", "gates", "end"] 5 (spTaut K) := fun base => ⟨f_taut, d_taut, ok_taut F_taut (O_next_bend base) (O_without_straight base), PySem.W.mg_of X G a_taut, l_taut.kp, b_taut⟩
  obtain ⟨d_root, F_root⟩ := l_root.fd
  have b_root := F_root.binds (ps := ["number"]) fun _ _ _ _ _ _ us hl => match us, hl with | [_], _ => rfl
  have O_root : ∀ base, Own l.prog w K mg base "root" ["number"] 1 spRoot := fun base => ⟨f_root, d_root, ok_root F_root, PySem.W.mg_of X G a_root, l_root.kp, b_root⟩
  obtain ⟨d_length_bounds, F_length_bounds⟩ := l_length_bounds.fd
  have b_length_bounds := F_length_bounds.binds (ps := ["points", "scale"]) fun _ _ _ _ _ _ us hl => match us, hl with | [_, _], _ => rfl
  have O_length_bounds : ∀ base, Own l.prog w K mg base "length_bounds" ["points", "scale"] 2 (spLb K) := fun base => ⟨f_length_bounds, d_length_bounds, ok_lb F_length_bounds (O_root base) (O_distance base) m_len m_range, PySem.W.mg_of X G a_length_bounds, l_length_bounds.kp, b_length_bounds⟩
  obtain ⟨d__law_state, F__law_state⟩ := l__law_state.fd
  have b__law_state := F__law_state.binds (ps := ["_law_script"]) fun _ _ _ _ _ _ us hl => match us, hl with | [_], _ => rfl
  have O__law_state : ∀ base, Own l.prog w K mg base "_law_state" ["_law_script"] 1 (spState K) := fun base => ⟨f__law_state, d__law_state, ok_state F__law_state m_int m_abs, PySem.W.mg_of X G a__law_state, l__law_state.kp, b__law_state⟩
  obtain ⟨d__law_draw, F__law_draw⟩ := l__law_draw.fd
  have b__law_draw := F__law_draw.binds (ps := ["_law_state_here", "_law_many"]) fun _ _ _ _ _ _ us hl => match us, hl with | [_, _], _ => rfl
  have O__law_draw : ∀ base, Own l.prog w K mg base "_law_draw" ["_law_state_here", "_law_many"] 1 spDraw := fun base => ⟨f__law_draw, d__law_draw, ok_draw F__law_draw m_len m_int, PySem.W.mg_of X G a__law_draw, l__law_draw.kp, b__law_draw⟩
  obtain ⟨d__law_pick, F__law_pick⟩ := l__law_pick.fd
  have b__law_pick := F__law_pick.binds (ps := ["_law_state_here", "_law_row"]) fun _ _ _ _ _ _ us hl => match us, hl with | [_, _], _ => rfl
  have O__law_pick : ∀ base, Own l.prog w K mg base "_law_pick" ["_law_state_here", "_law_row"] 2 (spPick K) := fun base => ⟨f__law_pick, d__law_pick, ok_pick F__law_pick (O__law_draw base) m_len, PySem.W.mg_of X G a__law_pick, l__law_pick.kp, b__law_pick⟩
  obtain ⟨d__law_side, F__law_side⟩ := l__law_side.fd
  have b__law_side := F__law_side.binds (ps := ["_law_state_here", "_law_rect", "_law_side_here", "_law_used"]) fun _ _ _ _ _ _ us hl => match us, hl with | [_, _, _, _], _ => rfl
  have O__law_side : ∀ base, Own l.prog w K mg base "_law_side" ["_law_state_here", "_law_rect", "_law_side_here", "_law_used"] 2 (spSide K) := fun base => ⟨f__law_side, d__law_side, ok_side F__law_side (O__law_draw base) m_int, PySem.W.mg_of X G a__law_side, l__law_side.kp, b__law_side⟩
  obtain ⟨d__law_next, F__law_next⟩ := l__law_next.fd
  have b__law_next := F__law_next.binds (ps := ["_law_state_here", "_law_rect", "_law_side_here", "_law_a", "_law_b"]) fun _ _ _ _ _ _ us hl => match us, hl with | [_, _, _, _, _], _ => rfl
  have O__law_next : ∀ base, Own l.prog w K mg base "_law_next" ["_law_state_here", "_law_rect", "_law_side_here", "_law_a", "_law_b"] 2 (spNext K) := fun base => ⟨f__law_next, d__law_next, ok_next F__law_next (O__law_draw base), PySem.W.mg_of X G a__law_next, l__law_next.kp, b__law_next⟩
  obtain ⟨d__law_point, F__law_point⟩ := l__law_point.fd
  have b__law_point := F__law_point.binds (ps := ["_law_state_here", "_law_rect", "_law_ends"]) fun _ _ _ _ _ _ us hl => match us, hl with | [_, _, _], _ => rfl
  have O__law_point : ∀ base, Own l.prog w K mg base "_law_point" ["_law_state_here", "_law_rect", "_law_ends"] 3 (spPoint K) := fun base => ⟨f__law_point, d__law_point, ok_point F__law_point (O__law_draw base) (O__law_pick base), PySem.W.mg_of X G a__law_point, l__law_point.kp, b__law_point⟩
  obtain ⟨d__law_corridor, F__law_corridor⟩ := l__law_corridor.fd
  have b__law_corridor := F__law_corridor.binds (ps := ["_law_state_here", "_law_most"]) fun _ _ _ _ _ _ us hl => match us, hl with | [_, _], _ => rfl
  have O__law_corridor : ∀ base, Own l.prog w K mg base "_law_corridor" ["_law_state_here", "_law_most"] 4 (spCorr K) := fun base => ⟨f__law_corridor, d__law_corridor, ok_corr F__law_corridor (O__law_draw base) (O__law_pick base) (O__law_side base) (O__law_next base) (O__law_point base) m_len m_int m_range, PySem.W.mg_of X G a__law_corridor, l__law_corridor.kp, b__law_corridor⟩
  obtain ⟨d__law_root, F__law_root⟩ := l__law_root.fd
  have b__law_root := F__law_root.binds (ps := ["_law_number"]) fun _ _ _ _ _ _ us hl => match us, hl with | [_], _ => rfl
  have O__law_root : ∀ base, Own l.prog w K mg base "_law_root" ["_law_number"] 1 spRoot := fun base => ⟨f__law_root, d__law_root, ok_lroot F__law_root, PySem.W.mg_of X G a__law_root, l__law_root.kp, b__law_root⟩
  obtain ⟨d__law_length, F__law_length⟩ := l__law_length.fd
  have b__law_length := F__law_length.binds (ps := ["_law_points", "_law_scale"]) fun _ _ _ _ _ _ us hl => match us, hl with | [_, _], _ => rfl
  have O__law_length : ∀ base, Own l.prog w K mg base "_law_length" ["_law_points", "_law_scale"] 2 (spLlen K) := fun base => ⟨f__law_length, d__law_length, ok_llen F__law_length (O__law_root base) m_len m_range, PySem.W.mg_of X G a__law_length, l__law_length.kp, b__law_length⟩
  obtain ⟨d__law_on, F__law_on⟩ := l__law_on.fd
  have b__law_on := F__law_on.binds (ps := ["_law_ends", "_law_scale"]) fun _ _ _ _ _ _ us hl => match us, hl with | [_, _], _ => rfl
  have O__law_on : ∀ base, Own l.prog w K mg base "_law_on" ["_law_ends", "_law_scale"] 1 (spLon K) := fun base => ⟨f__law_on, d__law_on, ok_lon F__law_on m_max m_abs m_int m_range, PySem.W.mg_of X G a__law_on, l__law_on.kp, b__law_on⟩
  obtain ⟨d__law_strings, F__law_strings⟩ := l__law_strings.fd
  have b__law_strings := F__law_strings.binds (ps := ["_law_state_here", "_law_start", "_law_gates", "_law_end"]) fun _ _ _ _ _ _ us hl => match us, hl with | [_, _, _, _], _ => rfl
  have O__law_strings : ∀ base, Own l.prog w K mg base "_law_strings" ["_law_state_here", "_law_start", "_law_gates", "_law_end"] 3 (spStrs K) := fun base => ⟨f__law_strings, d__law_strings, ok_strs F__law_strings (O__law_on base) (O__law_pick base) m_len, PySem.W.mg_of X G a__law_strings, l__law_strings.kp, b__law_strings⟩
  obtain ⟨oc, od, kV, dc, pm, an, cd, ct, sl, lk, lc⟩ := l_law.lk
  exact ⟨PySem.W.fnOf "law" "law" (defArgs sLaw) (defBody sLaw) (defScope sLaw) .none kV dc pm an cd ct, fun s v => .of_eq rfl, fun base _ _ =>
    ok_law (fun_mk (st := sLaw) lk lc l_law.kp) (O__law_state base) (O__law_corridor base) (O_taut base) (O__law_length base) (O__law_strings base) (O__law_draw base) (O_length_bounds base) m_len m_range m_isinstance m_tuple⟩
theorem walk {l : PySem.W.OpenLaw} {q : Program} {loose : List Str} {XP : (Str → Option Value) → Heap → Prop} {YP : World → Heap → Prop} {d : DefRec} {K : Params → Fg} (hn : l.most = some 63) (hdf : d.params.defaults = [])
    (hY : ∀ (w : World) (h : Heap), YP w h → (K w.params).In h)
    (F : ∀ (w : World) (mg : Str → Option Value) (fa : Addr) (h : Heap), (K w.params).In h → h.Ns mainGlobals mg → mg d.name = some (.ref fa) →
      ∃ fd : FuncData, (∀ (s : Shared) (u : Value), BindsTo s fd ⟨[u], []⟩ [("_law_script", u)]) ∧ ∀ base : Heap, (K w.params).In base → base.Ns mainGlobals mg → FnOk l.prog w (K w.params) mg base CX0 6 fa fd ["_law_script"] (spLaw (K w.params))) :
    PySem.W.WalkO q loose XP YP l.row.toRowW d [] (fun f vs => PySem.call f vs) :=
  L2.walk_of (n := 63) (k := 6) (x := "_law_script") (CX := fun _ => CX0) (sp := fun w => spLaw (K w.params)) hn (by decide) hdf ⟨rfl, by decide, by decide⟩ hY F (fun _ _ a ns hl _ hS => ⟨a, ns, rfl, hS, hl, fun _ => rfl⟩) fun _ _ _ _ _ z => z
end FW
open PySem PySem.W PyProof.Rows in
set_option maxRecDepth 100000 in
set_option maxHeartbeats 0 in
theorem PySem.Challenge.cw_footpath_k36_whole_no_string_is_shorter_holds : PySem.Challenge.rw_footpath_k36_whole_no_string_is_shorter.Holds := by
  w_on; o_law; k_head; (case hw => w_witness2)
  k_fill
  refine FW.walk (l := PySem.Challenge.rw_footpath_k36_whole_no_string_is_shorter) rfl rfl (fun w h Y => PySem.W.kIn_of Y) ?F
  case F =>
    intro w mg fa h KX G hmg
    refine' FW.all_mk KX G hmg ?a_cross (FW.laid ?ll_cross ?cl_cross ?kl_cross) ?a_distance (FW.laid ?ll_distance ?cl_distance ?kl_distance) ?a_on_gate (FW.laid ?ll_on_gate ?cl_on_gate ?kl_on_gate) ?a_nearer (FW.laid ?ll_nearer ?cl_nearer ?kl_nearer) ?a_next_bend (FW.laid ?ll_next_bend ?cl_next_bend ?kl_next_bend) ?a_is_straight (FW.laid ?ll_is_straight ?cl_is_straight ?kl_is_straight) ?a_without_straight (FW.laid ?ll_without_straight ?cl_without_straight ?kl_without_straight) ?a_taut (FW.laid ?ll_taut ?cl_taut ?kl_taut) ?a_root (FW.laid ?ll_root ?cl_root ?kl_root) ?a_length_bounds (FW.laid ?ll_length_bounds ?cl_length_bounds ?kl_length_bounds) ?a__law_state (FW.laid ?ll__law_state ?cl__law_state ?kl__law_state) ?a__law_draw (FW.laid ?ll__law_draw ?cl__law_draw ?kl__law_draw) ?a__law_pick (FW.laid ?ll__law_pick ?cl__law_pick ?kl__law_pick) ?a__law_side (FW.laid ?ll__law_side ?cl__law_side ?kl__law_side) ?a__law_next (FW.laid ?ll__law_next ?cl__law_next ?kl__law_next) ?a__law_point (FW.laid ?ll__law_point ?cl__law_point ?kl__law_point) ?a__law_corridor (FW.laid ?ll__law_corridor ?cl__law_corridor ?kl__law_corridor) ?a__law_root (FW.laid ?ll__law_root ?cl__law_root ?kl__law_root) ?a__law_length (FW.laid ?ll__law_length ?cl__law_length ?kl__law_length) ?a__law_on (FW.laid ?ll__law_on ?cl__law_on ?kl__law_on) ?a__law_strings (FW.laid ?ll__law_strings ?cl__law_strings ?kl__law_strings) ?a_law (FW.laid ?ll_law ?cl_law ?kl_law) ?afI ?ifI (FW.laid ?llfI ?clfI ?klfI) ?afM ?ifM (FW.laid ?llfM ?clfM ?klfM) ?afN ?ifN (FW.laid ?llfN ?clfN ?klfN) ?aC ?pg ?hdi ?po ?sat ?mk ?kc ?nA ?nL ?nR ?z_len ?z_range ?z_int ?z_abs ?z_max ?z_isinstance ?z_tuple
    (case aC => k_is)
    (case a_cross => k_is)
    (case ll_cross => k_is)
    (case cl_cross => k_is)
    (case kl_cross => k_is)
    (case a_distance => k_is)
    (case ll_distance => k_is)
    (case cl_distance => k_is)
    (case kl_distance => k_is)
    (case a_on_gate => k_is)
    (case ll_on_gate => k_is)
    (case cl_on_gate => k_is)
    (case kl_on_gate => k_is)
    (case a_nearer => k_is)
    (case ll_nearer => k_is)
    (case cl_nearer => k_is)
    (case kl_nearer => k_is)
    (case a_next_bend => k_is)
    (case ll_next_bend => k_is)
    (case cl_next_bend => k_is)
    (case kl_next_bend => k_is)
    (case a_is_straight => k_is)
    (case ll_is_straight => k_is)
    (case cl_is_straight => k_is)
    (case kl_is_straight => k_is)
    (case a_without_straight => k_is)
    (case ll_without_straight => k_is)
    (case cl_without_straight => k_is)
    (case kl_without_straight => k_is)
    (case a_taut => k_is)
    (case ll_taut => k_is)
    (case cl_taut => k_is)
    (case kl_taut => k_is)
    (case a_root => k_is)
    (case ll_root => k_is)
    (case cl_root => k_is)
    (case kl_root => k_is)
    (case a_length_bounds => k_is)
    (case ll_length_bounds => k_is)
    (case cl_length_bounds => k_is)
    (case kl_length_bounds => k_is)
    (case a__law_state => k_is)
    (case ll__law_state => k_is)
    (case cl__law_state => k_is)
    (case kl__law_state => k_is)
    (case a__law_draw => k_is)
    (case ll__law_draw => k_is)
    (case cl__law_draw => k_is)
    (case kl__law_draw => k_is)
    (case a__law_pick => k_is)
    (case ll__law_pick => k_is)
    (case cl__law_pick => k_is)
    (case kl__law_pick => k_is)
    (case a__law_side => k_is)
    (case ll__law_side => k_is)
    (case cl__law_side => k_is)
    (case kl__law_side => k_is)
    (case a__law_next => k_is)
    (case ll__law_next => k_is)
    (case cl__law_next => k_is)
    (case kl__law_next => k_is)
    (case a__law_point => k_is)
    (case ll__law_point => k_is)
    (case cl__law_point => k_is)
    (case kl__law_point => k_is)
    (case a__law_corridor => k_is)
    (case ll__law_corridor => k_is)
    (case cl__law_corridor => k_is)
    (case kl__law_corridor => k_is)
    (case a__law_root => k_is)
    (case ll__law_root => k_is)
    (case cl__law_root => k_is)
    (case kl__law_root => k_is)
    (case a__law_length => k_is)
    (case ll__law_length => k_is)
    (case cl__law_length => k_is)
    (case kl__law_length => k_is)
    (case a__law_on => k_is)
    (case ll__law_on => k_is)
    (case cl__law_on => k_is)
    (case kl__law_on => k_is)
    (case a__law_strings => k_is)
    (case ll__law_strings => k_is)
    (case cl__law_strings => k_is)
    (case kl__law_strings => k_is)
    (case a_law => k_is)
    (case ll_law => k_is)
    (case cl_law => k_is)
    (case kl_law => k_is)
    (case afI => k_is)
    (case ifI => k_is)
    (case llfI => k_is)
    (case clfI => k_is)
    (case klfI => k_is)
    (case afM => k_is)
    (case ifM => k_is)
    (case llfM => k_is)
    (case clfM => k_is)
    (case klfM => k_is)
    (case afN => k_is)
    (case ifN => k_is)
    (case llfN => k_is)
    (case clfN => k_is)
    (case klfN => k_is)
    (case pg => k_is)
    (case hdi => k_is)
    (case po => k_is)
    (case sat => k_is)
    (case mk => k_is)
    (case kc => k_is)
    (case nA => k_is)
    (case nL => k_is)
    (case nR => k_is)
    (case z_len => k_is)
    (case z_range => k_is)
    (case z_int => k_is)
    (case z_abs => k_is)
    (case z_max => k_is)
    (case z_isinstance => k_is)
    (case z_tuple => k_is)
#print axioms PySem.Challenge.cw_footpath_k36_whole_no_string_is_shorter_holds
