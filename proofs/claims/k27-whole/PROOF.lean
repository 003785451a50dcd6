import PyProof.Rows.All
import Wide.All
import OpenK.AllK
import Wide.FinOn
import HandS.ForMost
import HandS.Style
import HandS.TupMul
import HandS.TupAny
import HandS.TupSets
import HandS.SortRule
import HandS.Zip
import HandS.Conv
import HandS.Wide
import HandS.Lambda
import HandS.Flow
import KE.GoesEnum
import KE.KTupSum
import HandS.EndTab
import PySem.Challenge.RW_flutterheld_k27_whole_told_at_once
section
set_option Elab.async false
set_option linter.all false
/-! Fractions as pairs, plain. -/
namespace FM
theorem gcd_step {x y : Int} (hx : 0 ≤ x) (hy : 0 < y) : Int.gcd y (x % y) = Int.gcd x y := by
  unfold Int.gcd
  rw [Int.natAbs_emod_of_nonneg hx, Nat.gcd_comm y.natAbs, ← Nat.gcd_rec, Nat.gcd_comm]
/-! bits -/
def Sm (k : Nat) (x : Int) : Prop := x.natAbs < 2 ^ k
theorem Sm.mono {a b : Nat} {x : Int} (h : Sm a x) (l : a ≤ b) : Sm b x := Nat.lt_of_lt_of_le h (Nat.pow_le_pow_right (by decide) l)
theorem Sm.mul {a b : Nat} {x y : Int} (hx : Sm a x) (hy : Sm b y) : Sm (a + b) (x * y) := by
  unfold Sm at *
  rw [Nat.pow_add]
  rw [Int.natAbs_mul]
  exact Nat.mul_lt_mul'' hx hy
theorem Sm.add {a : Nat} {x y : Int} (hx : Sm a x) (hy : Sm a y) : Sm (a + 1) (x + y) := by
  unfold Sm at *
  have := Int.natAbs_add_le x y
  rw [Nat.pow_succ]
  omega
theorem Sm.sub {a : Nat} {x y : Int} (hx : Sm a x) (hy : Sm a y) : Sm (a + 1) (x - y) := by
  unfold Sm at *
  have := Int.natAbs_sub_le x y
  rw [Nat.pow_succ]
  omega
theorem Sm.neg {a : Nat} {x : Int} (hx : Sm a x) : Sm a (-x) := by
  unfold Sm at *
  rw [Int.natAbs_neg]; exact hx
theorem Sm.le {a : Nat} {x y : Int} (hx : Sm a x) (h : y.natAbs ≤ x.natAbs) : Sm a y := Nat.lt_of_le_of_lt h hx
theorem Sm.log {a : Nat} {x : Int} (hx : Sm a x) : x.natAbs.log2 ≤ a := by
  by_cases h0 : x.natAbs = 0
  · rw [h0]; simp
  · exact Nat.le_of_lt ((Nat.log2_lt h0).mpr hx)
theorem Sm.div {a : Nat} {x y : Int} (hx : Sm a x) : Sm a (x / y) := hx.le (Int.natAbs_ediv_le_natAbs ..)
theorem Sm.of {a : Nat} {x : Int} (b : Nat) (h : x.natAbs ≤ b) (hb : b < 2 ^ a := by decide) : Sm a x := Nat.lt_of_le_of_lt h hb
/-! reducing -/
def red (n d : Int) : Int × Int := (n / (Int.gcd n d : Int), d / (Int.gcd n d : Int))
theorem gcd_pos {n d : Int} (h : 0 < d) : 0 < (Int.gcd n d : Int) := by
  have : Int.gcd n d ≠ 0 := fun z => by
    have := Int.gcd_eq_zero_iff.mp z
    omega
  omega
theorem red1 (n d : Int) : (red n d).1 * (Int.gcd n d : Int) = n := Int.ediv_mul_cancel (Int.gcd_dvd_left ..)
theorem red2 (n d : Int) : (red n d).2 * (Int.gcd n d : Int) = d := Int.ediv_mul_cancel (Int.gcd_dvd_right ..)
theorem red_pos {n d : Int} (h : 0 < d) : 0 < (red n d).2 := by
  have h1 := red2 n d
  have h2 := gcd_pos (n := n) h
  exact Int.pos_of_mul_pos_left (by rw [h1]; exact h) h2
/-- q stands for n by d -/
structure V (q : Int × Int) (n d : Int) : Prop where
  pos : 0 < q.2
  dpos : 0 < d
  val : q.1 * d = n * q.2
theorem V.red {n d : Int} (h : 0 < d) : V (FM.red n d) n d := ⟨red_pos h, h, by
  have h1 := red1 n d
  have h2 := red2 n d
  have g := gcd_pos (n := n) h
  refine Int.eq_of_mul_eq_mul_right (Int.ne_of_gt g) ?_
  grind⟩
theorem V.red' {q : Int × Int} {n d n' d' : Int} (hq : q = FM.red n d) (h : 0 < d) (h' : 0 < d') (e : n * d' = n' * d) : V q n' d' := by
  subst hq
  have := V.red (n := n) h
  exact ⟨this.pos, h', by
    have v := this.val
    refine Int.eq_of_mul_eq_mul_right (Int.ne_of_gt h) ?_
    grind⟩
theorem V.to {q : Int × Int} {n d n' d' : Int} (v : V q n d) (h' : 0 < d') (e : n * d' = n' * d) : V q n' d' := ⟨v.pos, h', by
  have := v.val
  refine Int.eq_of_mul_eq_mul_right (Int.ne_of_gt v.dpos) ?_
  grind⟩
def add (p q : Int × Int) : Int × Int := red (p.1 * q.2 + q.1 * p.2) (p.2 * q.2)
def sub (p q : Int × Int) : Int × Int := red (p.1 * q.2 - q.1 * p.2) (p.2 * q.2)
def mul (p q : Int × Int) : Int × Int := red (p.1 * q.1) (p.2 * q.2)
def dvd (p q : Int × Int) : Int × Int := red (p.1 * q.2) (p.2 * q.1)
def many (p : Int × Int) (k : Int) : Int × Int := red (p.1 * k) p.2
theorem V.add {p q : Int × Int} {n d m e : Int} (a : V p n d) (b : V q m e) : V (FM.add p q) (n * e + m * d) (d * e) := by
  refine V.red' rfl (Int.mul_pos a.pos b.pos) (Int.mul_pos a.dpos b.dpos) ?_
  have h1 := a.val
  have h2 := b.val
  grind
theorem V.sub {p q : Int × Int} {n d m e : Int} (a : V p n d) (b : V q m e) : V (FM.sub p q) (n * e - m * d) (d * e) := by
  refine V.red' rfl (Int.mul_pos a.pos b.pos) (Int.mul_pos a.dpos b.dpos) ?_
  have h1 := a.val
  have h2 := b.val
  grind
theorem V.mul {p q : Int × Int} {n d m e : Int} (a : V p n d) (b : V q m e) : V (FM.mul p q) (n * m) (d * e) := by
  refine V.red' rfl (Int.mul_pos a.pos b.pos) (Int.mul_pos a.dpos b.dpos) ?_
  have h1 := a.val
  have h2 := b.val
  grind
theorem V.dvd {p q : Int × Int} {n d m e : Int} (a : V p n d) (b : V q m e) (hm : 0 < m) (hq : 0 < q.1) : V (FM.dvd p q) (n * e) (d * m) := by
  refine V.red' rfl (Int.mul_pos a.pos hq) (Int.mul_pos a.dpos hm) ?_
  have h1 := a.val
  have h2 := b.val
  grind
theorem V.many {p : Int × Int} {n d : Int} (a : V p n d) (k : Int) : V (FM.many p k) (n * k) d := by
  refine V.red' rfl a.pos a.dpos ?_
  have h1 := a.val
  grind
theorem V.one (n : Int) : V (n, 1) n 1 := ⟨(show (0 : Int) < 1 by decide), by decide, rfl⟩
theorem mul_lt_iff {a b c : Int} (h : 0 < c) : a * c < b * c ↔ a < b := ⟨fun z => Int.lt_of_mul_lt_mul_right z (Int.le_of_lt h), fun z => Int.mul_lt_mul_of_pos_right z h⟩
theorem V.lt {p q : Int × Int} {n d m e : Int} (a : V p n d) (b : V q m e) : p.1 * q.2 < q.1 * p.2 ↔ n * e < m * d := by
  have h1 := a.val
  have h2 := b.val
  have hde : 0 < d * e := Int.mul_pos a.dpos b.dpos
  have hpq : 0 < p.2 * q.2 := Int.mul_pos a.pos b.pos
  rw [← mul_lt_iff hde, ← mul_lt_iff (a := n * e) hpq]
  have e1 : p.1 * q.2 * (d * e) = n * e * (p.2 * q.2) := by grind
  have e2 : q.1 * p.2 * (d * e) = m * d * (p.2 * q.2) := by grind
  rw [e1, e2]
/-! sizes of fractions -/
structure Bq (k : Nat) (q : Int × Int) : Prop where
  pos : 0 < q.2
  n : Sm k q.1
  d : Sm k q.2
theorem Bq.mono {a b : Nat} {q : Int × Int} (h : Bq a q) (l : a ≤ b) : Bq b q := ⟨h.pos, h.n.mono l, h.d.mono l⟩
theorem Bq.red {k : Nat} {n d : Int} (h : 0 < d) (hn : Sm k n) (hd : Sm k d) : Bq k (FM.red n d) := ⟨red_pos h, hn.div, hd.div⟩
theorem Bq.add {a b : Nat} {p q : Int × Int} (h : Bq a p) (g : Bq b q) : Bq (a + b + 1) (FM.add p q) :=
  .red (Int.mul_pos h.pos g.pos) ((h.n.mul g.d).add ((g.n.mul h.d).mono (Nat.le_of_eq (Nat.add_comm b a)))) ((h.d.mul g.d).mono (Nat.le_succ _))
theorem Bq.sub {a b : Nat} {p q : Int × Int} (h : Bq a p) (g : Bq b q) : Bq (a + b + 1) (FM.sub p q) :=
  .red (Int.mul_pos h.pos g.pos) ((h.n.mul g.d).sub ((g.n.mul h.d).mono (Nat.le_of_eq (Nat.add_comm b a)))) ((h.d.mul g.d).mono (Nat.le_succ _))
theorem Bq.mul {a b : Nat} {p q : Int × Int} (h : Bq a p) (g : Bq b q) : Bq (a + b) (FM.mul p q) := .red (Int.mul_pos h.pos g.pos) (h.n.mul g.n) (h.d.mul g.d)
theorem Bq.dvd {a b : Nat} {p q : Int × Int} (h : Bq a p) (g : Bq b q) (hq : 0 < q.1) : Bq (a + b) (FM.dvd p q) := .red (Int.mul_pos h.pos hq) (h.n.mul g.d) (h.d.mul g.n)
theorem Bq.many {a b : Nat} {p : Int × Int} {k : Int} (h : Bq a p) (g : Sm b k) : Bq (a + b) (FM.many p k) := .red h.pos (h.n.mul g) (h.d.mono (Nat.le_add_right _ _))
theorem cop {a b c : Int} (h : a ∣ b * c) (g : Int.gcd a b = 1) : a ∣ c := by
  rw [← Int.natAbs_dvd_natAbs] at h ⊢
  rw [Int.natAbs_mul, Nat.mul_comm] at h
  exact Nat.Coprime.dvd_of_dvd_mul_right (n := b.natAbs) g h
/-! in units of 1 by 360 -/
def fr (x : Int) : Int × Int := red x 360
theorem red_eq {n d n' d' : Int} (h : 0 < d) (h' : 0 < d') (e : n * d' = n' * d) : red n d = red n' d' := by
  have a := V.red (n := n) h
  have b := V.red (n := n') h'
  have g1 := gcd_pos (n := n) h
  have g2 := gcd_pos (n := n') h'
  have c1 : Int.gcd (red n d).1 (red n d).2 = 1 := Int.gcd_ediv_gcd_ediv_gcd (by omega)
  have c2 : Int.gcd (red n' d').1 (red n' d').2 = 1 := Int.gcd_ediv_gcd_ediv_gcd (by omega)
  have key : (red n d).1 * (red n' d').2 = (red n' d').1 * (red n d).2 := by
    have h1 := a.val
    have h2 := b.val
    refine Int.eq_of_mul_eq_mul_right (Int.ne_of_gt (Int.mul_pos h h')) ?_
    grind
  generalize red n d = p at *
  generalize red n' d' = q at *
  have pp := a.pos
  have qp := b.pos
  have d1 : p.2 ∣ q.2 := by
    have : p.2 ∣ p.1 * q.2 := ⟨q.1, by rw [key, Int.mul_comm]⟩
    exact cop this (by rw [Int.gcd_comm]; exact c1)
  have d2 : q.2 ∣ p.2 := by
    have : q.2 ∣ q.1 * p.2 := ⟨p.1, by rw [← key, Int.mul_comm]⟩
    exact cop this (by rw [Int.gcd_comm]; exact c2)
  have e2 : p.2 = q.2 := Int.le_antisymm (Int.le_of_dvd qp d1) (Int.le_of_dvd pp d2)
  rw [e2] at key
  have e1 : p.1 = q.1 := Int.eq_of_mul_eq_mul_right (Int.ne_of_gt qp) key
  exact Prod.ext e1 e2
theorem V.fr (x : Int) : V (FM.fr x) x 360 := V.red (by decide)
theorem add_fr (x y : Int) : add (fr x) (fr y) = fr (x + y) := by
  have v := (V.fr x).add (V.fr y)
  have a := V.fr x
  have b := V.fr y
  refine red_eq (Int.mul_pos a.pos b.pos) (by decide) ?_
  have h1 := a.val
  have h2 := b.val
  grind
theorem sub_fr (x y : Int) : sub (fr x) (fr y) = fr (x - y) := by
  have a := V.fr x
  have b := V.fr y
  refine red_eq (Int.mul_pos a.pos b.pos) (by decide) ?_
  have h1 := a.val
  have h2 := b.val
  grind
theorem many_fr (x k : Int) : many (fr x) k = fr (x * k) := by
  have a := V.fr x
  refine red_eq a.pos (by decide) ?_
  have h1 := a.val
  grind
theorem red_self {q : Int × Int} {x : Int} (h : 0 < q.2) (c : Int.gcd q.1 q.2 = 1) (e : q.1 * 360 = x * q.2) : q = fr x := by
  have : red q.1 q.2 = q := by
    unfold red
    rw [c]
    exact Prod.ext (Int.ediv_one _) (Int.ediv_one _)
  rw [← this]
  exact red_eq h (by decide) e
theorem fr_one (n : Int) : (n, (1 : Int)) = fr (360 * n) := red_self (q := (n, 1)) (show (0 : Int) < 1 by decide) (by simp) (by show n * 360 = 360 * n * 1; omega)
theorem fr_pos (x : Int) : 0 < (fr x).2 := (V.fr x).pos
theorem fr_le (x : Int) : (fr x).1.natAbs ≤ x.natAbs ∧ (fr x).2 ≤ 360 := by
  refine ⟨Int.natAbs_ediv_le_natAbs .., ?_⟩
  exact Int.ediv_le_self _ (by decide)
theorem Bq.fr {x : Int} {k : Nat} (h : Sm k x) : Bq (k + 9) (FM.fr x) := ⟨fr_pos x, (h.le (fr_le x).1).mono (by omega), by
  have h1 := fr_pos x
  have h2 := (fr_le x).2
  exact (Sm.of (a := 9) 360 (by omega)).mono (by omega)⟩
theorem fr_lt (x y : Int) : (fr x).1 * (fr y).2 < (fr y).1 * (fr x).2 ↔ x < y := by
  rw [(V.fr x).lt (V.fr y)]
  omega
end FM
end
section
set_option Elab.async false
set_option linter.all false
/-! PHI, plain. -/
namespace FM
theorem V.uniq {p q : Int × Int} {n d : Int} (h : p = FM.red p.1 p.2) (g : q = FM.red q.1 q.2) (a : V p n d) (b : V q n d) : p = q := by
  rw [h, g]
  refine red_eq a.pos b.pos ?_
  have h1 := a.val
  have h2 := b.val
  refine Int.eq_of_mul_eq_mul_right (Int.ne_of_gt a.dpos) ?_
  grind
theorem red_red {n d : Int} (h : 0 < d) : red n d = red (red n d).1 (red n d).2 := by
  have a := V.red (n := n) h
  refine red_eq h a.pos ?_
  have := a.val
  grind
theorem V.eq {p : Int × Int} {n d m e : Int} (h : 0 < e) (hp : p = FM.red m e) (a : V p n d) : p = FM.red n d :=
  V.uniq (by rw [hp]; exact red_red h) (red_red a.dpos) a (V.red a.dpos)
def ph (dr sh t : Int) : Int × Int := red (4 * sh + dr * (t * (t - 1))) (360 * t)
theorem ph_V {dr sh t : Int} (ht : 0 < t) : V (ph dr sh t) (4 * sh + dr * (t * (t - 1))) (360 * t) := V.red (by omega)
theorem ph_prog {dr sh t : Int} (ht : 0 < t) : add (dvd (mul (4, 1) (fr sh)) (t, 1)) (mul (fr dr) (t - 1, 1)) = ph dr sh t := by
  have v := ((((V.one 4).mul (V.fr sh)).dvd (V.one t) ht ht)).add ((V.fr dr).mul (V.one (t - 1)))
  have v2 : V (add (dvd (mul (4, 1) (fr sh)) (t, 1)) (mul (fr dr) (t - 1, 1))) (4 * sh + dr * (t * (t - 1))) (360 * t) := v.to (by omega) (by grind)
  have b := ((((V.one 4).mul (V.fr sh)).dvd (V.one t) ht ht))
  have c := ((V.fr dr).mul (V.one (t - 1)))
  exact V.eq (Int.mul_pos b.pos c.pos) rfl v2
theorem ph_law {dr sh t : Int} (ht : 0 < t) : add (red ((fr sh).1 * 4) ((fr sh).2 * t)) (many (fr dr) (t - 1)) = ph dr sh t := by
  have h0 := (V.fr sh)
  have b : V (red ((fr sh).1 * 4) ((fr sh).2 * t)) (sh * 4) (360 * t) := V.red' rfl (Int.mul_pos h0.pos ht) (by omega) (by have := h0.val; grind)
  have c := (V.fr dr).many (t - 1)
  have v2 : V (add (red ((fr sh).1 * 4) ((fr sh).2 * t)) (many (fr dr) (t - 1))) (4 * sh + dr * (t * (t - 1))) (360 * t) := (b.add c).to (by omega) (by grind)
  exact V.eq (Int.mul_pos b.pos c.pos) rfl v2
theorem Bq.ph {dr sh t : Int} (hd : Sm 14 dr) (hs : Sm 14 sh) (ht : 0 < t) (h1 : Sm 20 t) : Bq 70 (FM.ph dr sh t) := by
  have h2 : Sm 21 (t - 1) := by unfold Sm at *; omega
  refine Bq.red (by omega) ?_ ?_
  · exact (((Sm.of (a := 3) (x := 4) 4 (by decide)).mul hs).mono (b := 56) (by decide)).add ((hd.mul (h1.mul h2)).mono (by decide)) |>.mono (by decide)
  · exact ((Sm.of (a := 9) (x := 360) 360 (by decide)).mul h1).mono (by decide)
end FM
end
section
set_option Elab.async false
set_option linter.all false
/-! Shapes, plain: what the law's own functions compute. -/
namespace FM
abbrev Pt := Int × Int
/-- the turn at the second of three -/
def trn (a b c : Pt) : Int := (b.1 - a.1) * (c.2 - a.2) - (b.2 - a.2) * (c.1 - a.1)
def Lex (p q : Pt) : Prop := p.1 < q.1 ∨ (p.1 = q.1 ∧ p.2 < q.2)
/-- one more is taken into the half (the half is kept back to front) -/
def popS (x : Pt) : List Pt → List Pt
  | b :: a :: r => if trn a b x ≤ 0 then popS x (a :: r) else b :: a :: r
  | l => l
def halfS (h : List Pt) (x : Pt) : List Pt := x :: popS x h
/-- the half chain of a line, front to back -/
def half (l : List Pt) : List Pt := (l.foldl halfS []).reverse
def hullL (L : List Pt) : List Pt := if L.length < 3 then L else (half L).dropLast ++ (half L.reverse).dropLast
def Hul (ps qs : List Pt) : Prop := ∃ L : List Pt, L.Pairwise Lex ∧ (∀ x, x ∈ L ↔ x ∈ ps) ∧ qs = hullL L
def gcds (N : Int) (ps : List Pt) : Int := ps.foldl (fun g p => (Int.gcd (Int.gcd g p.1 : Int) p.2 : Int)) N
structure Sh where
  N : Int
  ps : List Pt
def PlainR (N : Int) (ps : List Pt) (S : Sh) : Prop := S.N = N / gcds N ps ∧ Hul (ps.map fun p => (p.1 / gcds N ps, p.2 / gcds N ps)) S.ps
def sideOf (N : Int) (pl : Nat) (b : Int × Int) (sg : Int) (p : Pt) : Int := sg * ((if pl = 0 then p.1 else p.2) * b.2 - b.1 * N)
def sn (s t : Int) : Int := if s < t then 1 else -1
def newP (s t : Int) (p q : Pt) : Pt := ((p.1 * t - q.1 * s) * sn s t, (p.2 * t - q.2 * s) * sn s t)
def itm (f : Pt → Int) (ps : List Pt) (i : Nat) : List (Pt × Int) :=
  (if 0 ≤ f (ps.getD i (0, 0)) then [(ps.getD i (0, 0), 1)] else []) ++
    (if f (ps.getD i (0, 0)) * f (ps.getD ((i + 1) % ps.length) (0, 0)) < 0 then
      [(newP (f (ps.getD i (0, 0))) (f (ps.getD ((i + 1) % ps.length) (0, 0))) (ps.getD i (0, 0)) (ps.getD ((i + 1) % ps.length) (0, 0)), (f (ps.getD ((i + 1) % ps.length) (0, 0)) - f (ps.getD i (0, 0))) * sn (f (ps.getD i (0, 0))) (f (ps.getD ((i + 1) % ps.length) (0, 0))))] else [])
def cutL (f : Pt → Int) (ps : List Pt) (n : Nat) : List (Pt × Int) := (List.range n).flatMap (itm f ps)
theorem cutL_succ (f : Pt → Int) (ps : List Pt) (n : Nat) : cutL f ps (n + 1) = cutL f ps n ++ itm f ps n := by
  unfold cutL
  rw [List.range_succ, List.flatMap_append]
  simp
def fac (l : List (Pt × Int)) : Int := (l.map (·.2)).foldl (· * ·) 1
theorem fac_app (l : List (Pt × Int)) (x : Pt × Int) : fac (l ++ [x]) = fac l * x.2 := by
  unfold fac
  rw [List.map_append, List.foldl_append]
  rfl
/-- what a cut hands to the plain shape -/
def cutP (l : List (Pt × Int)) : List Pt := l.map fun x => (x.1.1 * fac l / x.2, x.1.2 * fac l / x.2)
def CutR (S : Sh) (pl : Nat) (b : Int × Int) (sg : Int) (S' : Sh) : Prop :=
  PlainR (S.N * fac (cutL (sideOf S.N pl b sg) S.ps S.ps.length)) (cutP (cutL (sideOf S.N pl b sg) S.ps S.ps.length)) S'
def ledP (n d : Int) (S : Sh) : List Pt := S.ps.flatMap fun p => [(p.1 * d + (p.2 * d - n * S.N), p.2 * d - n * S.N), (p.1 * d + (p.2 * d + n * S.N), p.2 * d + n * S.N)]
def LedR (n d cell : Int) (S S' : Sh) : Prop := ∃ hs, Hul (ledP n d S) hs ∧ CutR ⟨S.N * d, hs⟩ 1 (cell, 1) 1 S'
def begP (low high lst : Int × Int) (cell : Int) : List Pt :=
  let N := low.2 * high.2 * lst.2
  [(low.1 * (N / low.2) + cell * (N / 1), cell * (N / 1)), (low.1 * (N / low.2) + lst.1 * (N / lst.2), lst.1 * (N / lst.2)), (high.1 * (N / high.2) + cell * (N / 1), cell * (N / 1)), (high.1 * (N / high.2) + lst.1 * (N / lst.2), lst.1 * (N / lst.2))]
def BegR (cell : Int) (low high lst : Int × Int) (S : Sh) : Prop :=
  (lst.1 * 1 < cell * lst.2 ∧ S = ⟨1, []⟩) ∨ (¬ lst.1 * 1 < cell * lst.2 ∧ PlainR (low.2 * high.2 * lst.2) (begP low high lst cell) S)
/-! what the sizes must be -/
structure PlainPre (N : Int) (ps : List Pt) : Prop where
  pos : 0 < N
  q1 : Sm 4000 (N / gcds N ps)
  q2 : ∀ p ∈ ps, Sm 4000 (p.1 / gcds N ps) ∧ Sm 4000 (p.2 / gcds N ps)
  len : ps.length ≤ 300
structure CutPre (S : Sh) (pl : Nat) (b : Int × Int) (sg : Int) : Prop where
  sN : Sm 4000 S.N
  sp : ∀ p ∈ S.ps, Sm 4000 p.1 ∧ Sm 4000 p.2
  b1 : Sm 1000 b.1
  b2 : Sm 1000 b.2
  sg1 : sg = 1 ∨ sg = -1
  pl1 : pl = 0 ∨ pl = 1
  len : S.ps.length ≤ 200
  plain : PlainPre (S.N * fac (cutL (sideOf S.N pl b sg) S.ps S.ps.length)) (cutP (cutL (sideOf S.N pl b sg) S.ps S.ps.length))
structure LedPre (n d cell : Int) (S : Sh) : Prop where
  sN : Sm 3000 S.N
  sp : ∀ p ∈ S.ps, Sm 3000 p.1 ∧ Sm 3000 p.2
  sn1 : Sm 30 n
  sd : Sm 30 d
  d0 : 0 < d
  sc : Sm 300 cell
  len : S.ps.length ≤ 88
  cut : ∀ hs, Hul (ledP n d S) hs → CutPre ⟨S.N * d, hs⟩ 1 (cell, 1) 1
end FM
end
section
set_option Elab.async false
set_option linter.all false
set_option maxRecDepth 100000
/-! A layer of data over HandS: D the data, SD what a slot holds, W what an expression gives, WS what a statement does. -/
namespace FL
open PySem PySem.Spec PyProof.Rows L2

/-! ### data -/
inductive D where
  | non | bl (b : Bool) | int (i : Int) | ref (a : Addr) | tup (ds : List D) | lst (ds : List D)

mutual
def Has (N : Addr → Prop) (H : Hp) : D → V → Prop
  | .non, v => v = .non
  | .bl b, v => v = .bl b
  | .int i, v => v = .int i
  | .ref a, v => v = .ref a
  | .tup ds, v => ∃ p xs, v = .ref p ∧ H p = some (.tup xs) ∧ HasL N H ds xs
  | .lst ds, v => ∃ p xs, v = .ref p ∧ ¬ N p ∧ H p = some (.lst xs) ∧ HasL N H ds xs
def HasL (N : Addr → Prop) (H : Hp) : List D → List V → Prop
  | [], xs => xs = []
  | d :: ds, xs => ∃ x r, xs = x :: r ∧ Has N H d x ∧ HasL N H ds r
end

mutual
def imm : D → Bool
  | .lst _ => false
  | .tup ds => immL ds
  | .non => true | .bl _ => true | .int _ => true | .ref _ => true
def immL : List D → Bool
  | [] => true
  | d :: ds => imm d && immL ds
end

section
variable {N N' : Addr → Prop} {H H' : Hp}
mutual
theorem Has.keep (ht : ∀ a xs, H a = some (.tup xs) → H' a = some (.tup xs)) (hl : ∀ a xs, ¬ N a → H a = some (.lst xs) → ¬ N' a ∧ H' a = some (.lst xs)) : ∀ (d : D) (v : V), Has N H d v → Has N' H' d v
  | .non, _, h => h
  | .bl _, _, h => h
  | .int _, _, h => h
  | .ref _, _, h => h
  | .tup ds, v, h => by
    obtain ⟨p, xs, e, hp, hL⟩ : ∃ p xs, v = .ref p ∧ H p = some (.tup xs) ∧ HasL N H ds xs := h
    exact ⟨p, xs, e, ht _ _ hp, HasL.keep ht hl ds xs hL⟩
  | .lst ds, v, h => by
    obtain ⟨p, xs, e, hn, hp, hL⟩ : ∃ p xs, v = .ref p ∧ ¬ N p ∧ H p = some (.lst xs) ∧ HasL N H ds xs := h
    exact ⟨p, xs, e, (hl _ _ hn hp).1, (hl _ _ hn hp).2, HasL.keep ht hl ds xs hL⟩
theorem HasL.keep (ht : ∀ a xs, H a = some (.tup xs) → H' a = some (.tup xs)) (hl : ∀ a xs, ¬ N a → H a = some (.lst xs) → ¬ N' a ∧ H' a = some (.lst xs)) : ∀ (ds : List D) (xs : List V), HasL N H ds xs → HasL N' H' ds xs
  | [], _, h => h
  | d :: ds, xs, h => by
    obtain ⟨x, r, e, h1, h2⟩ : ∃ x r, xs = x :: r ∧ Has N H d x ∧ HasL N H ds r := h
    exact ⟨x, r, e, Has.keep ht hl d x h1, HasL.keep ht hl ds r h2⟩
end
mutual
theorem Has.immK (ht : ∀ a xs, H a = some (.tup xs) → H' a = some (.tup xs)) : ∀ (d : D) (v : V), imm d = true → Has N H d v → Has N' H' d v
  | .non, _, _, h => h
  | .bl _, _, _, h => h
  | .int _, _, _, h => h
  | .ref _, _, _, h => h
  | .tup ds, v, i, h => by
    obtain ⟨p, xs, e, hp, hL⟩ : ∃ p xs, v = .ref p ∧ H p = some (.tup xs) ∧ HasL N H ds xs := h
    exact ⟨p, xs, e, ht _ _ hp, HasL.immK ht ds xs i hL⟩
  | .lst ds, v, i, h => by cases i
theorem HasL.immK (ht : ∀ a xs, H a = some (.tup xs) → H' a = some (.tup xs)) : ∀ (ds : List D) (xs : List V), immL ds = true → HasL N H ds xs → HasL N' H' ds xs
  | [], _, _, h => h
  | d :: ds, xs, i, h => by
    obtain ⟨x, r, e, h1, h2⟩ : ∃ x r, xs = x :: r ∧ Has N H d x ∧ HasL N H ds r := h
    have i' : (imm d && immL ds) = true := i
    rw [Bool.and_eq_true] at i'
    exact ⟨x, r, e, Has.immK ht d x i'.1 h1, HasL.immK ht ds r i'.2 h2⟩
end
theorem HasL.len : ∀ {ds : List D} {xs : List V}, HasL N H ds xs → xs.length = ds.length
  | [], xs, h => by
    have e : xs = [] := h
    subst e
    rfl
  | d :: ds, xs, h => by
    obtain ⟨x, r, e, _, h2⟩ : ∃ x r, xs = x :: r ∧ Has N H d x ∧ HasL N H ds r := h
    rw [e, List.length_cons, List.length_cons, HasL.len h2]
theorem HasL.get : ∀ {ds : List D} {xs : List V} {i : Nat} {d : D}, HasL N H ds xs → ds[i]? = some d → ∃ x, xs[i]? = some x ∧ Has N H d x
  | [], _, _, _, _, hn => by simp at hn
  | d :: ds, xs, 0, d', h, g => by
    obtain ⟨x, r, e, h1, _⟩ : ∃ x r, xs = x :: r ∧ Has N H d x ∧ HasL N H ds r := h
    cases g
    exact ⟨x, by rw [e]; rfl, h1⟩
  | d :: ds, xs, i + 1, d', h, g => by
    obtain ⟨x, r, e, _, h2⟩ : ∃ x r, xs = x :: r ∧ Has N H d x ∧ HasL N H ds r := h
    obtain ⟨y, e2, h3⟩ := HasL.get (i := i) h2 g
    exact ⟨y, by rw [e]; exact e2, h3⟩
theorem HasL.back : ∀ {ds : List D} {xs : List V} {i : Nat} {x : V}, HasL N H ds xs → xs[i]? = some x → ∃ d, ds[i]? = some d ∧ Has N H d x := by
  intro ds xs i x h e
  have hl := HasL.len h
  have hi : i < ds.length := by
    have := (List.getElem?_eq_some_iff.mp e).1
    omega
  obtain ⟨y, e2, h3⟩ := HasL.get h (List.getElem?_eq_getElem hi)
  rw [e] at e2
  cases e2
  exact ⟨ds[i], List.getElem?_eq_getElem hi, h3⟩
theorem HasL.of : ∀ {ds : List D} {xs : List V}, xs.length = ds.length → (∀ (i : Nat) (d : D) (x : V), ds[i]? = some d → xs[i]? = some x → Has N H d x) → HasL N H ds xs
  | [], xs, e, _ => List.length_eq_zero_iff.mp e
  | d :: ds, [], e, _ => by cases e
  | d :: ds, x :: xs, e, h => ⟨x, xs, rfl, h 0 d x rfl rfl, HasL.of (by simpa using e) fun i d' x' a b => h (i + 1) d' x' a b⟩
theorem HasL.app {ds es : List D} {xs ys : List V} (a : HasL N H ds xs) (b : HasL N H es ys) : HasL N H (ds ++ es) (xs ++ ys) := by
  have h1 := HasL.len a
  have h2 := HasL.len b
  refine HasL.of (by rw [List.length_append, List.length_append, h1, h2]) fun i d x e1 e2 => ?_
  by_cases hi : i < ds.length
  · rw [List.getElem?_append_left hi] at e1
    rw [List.getElem?_append_left (by omega)] at e2
    obtain ⟨y, q, r⟩ := HasL.get a e1
    rw [q] at e2; cases e2; exact r
  · rw [List.getElem?_append_right (by omega)] at e1
    rw [List.getElem?_append_right (by omega), h1] at e2
    obtain ⟨y, q, r⟩ := HasL.get b e1
    rw [q] at e2; cases e2; exact r
theorem HasL.one {d : D} {x : V} (h : Has N H d x) : HasL N H [d] [x] := ⟨x, [], rfl, h, rfl⟩
theorem immL_iff : ∀ {ds : List D}, immL ds = true ↔ ∀ d ∈ ds, imm d = true
  | [] => by simp [immL]
  | d :: ds => by simp [immL, immL_iff (ds := ds)]
end

theorem hasI {N : Addr → Prop} {H : Hp} {i : Int} : Has N H (.int i) (.int i) := rfl
theorem hasB {N : Addr → Prop} {H : Hp} {i : Bool} : Has N H (.bl i) (.bl i) := rfl
theorem hasN {N : Addr → Prop} {H : Hp} : Has N H .non .non := rfl
theorem hasR {N : Addr → Prop} {H : Hp} {a : Addr} : Has N H (.ref a) (.ref a) := rfl
/-! ### modes: the bag (its list and its cells), the tables of code -/
structure Md where
  B : Option (Addr × Addr)
  T : List (Addr × Str)

def BagOk (b c : Addr) (H : Hp) : Prop := ∃ (x s k : Int) (cs : List Int), H b = some (.lst [.int x, .int s, .int k, .ref c]) ∧ 0 ≤ x ∧ 0 ≤ s ∧ s < 2147483647 ∧ 0 ≤ k ∧ H c = some (.lst (cs.map V.int)) ∧ (∀ z ∈ cs, 0 ≤ z) ∧ cs.length ≤ 500
def J (M : Md) (H : Hp) : Prop := (∀ b c, M.B = some (b, c) → BagOk b c H) ∧ LamX.Tabs M.T H
def IsB (M : Md) (a : Addr) : Prop := ∃ c, M.B = some (a, c)
/-- none, or a table of code -/
def Fr (H : Hp) (a : Addr) : Prop := H a = none ∨ ∃ ps, H a = some (.tbl ps)
structure R (M : Md) (H H' : Hp) : Prop where
  kp : ∀ a o, (∀ ps, o ≠ .tbl ps) → ¬ IsB M a → H a = some o → H' a = some o
  fr : ∀ a, Fr H' a → Fr H a

section
variable {M : Md} {H H1 H2 : Hp} {p : Addr} {o : HO}
theorem Fr.ne {a : Addr} (h : Fr H p) (e : H a = some o) (n : ∀ ps, o ≠ .tbl ps) : a ≠ p := fun z => by
  subst z
  rcases h with h | ⟨ps, h⟩
  · rw [h] at e; cases e
  · rw [h] at e; cases e; exact n _ rfl
theorem R.refl : R M H H := ⟨fun _ _ _ _ h => h, fun _ h => h⟩
theorem R.trans (a : R M H H1) (b : R M H1 H2) : R M H H2 := ⟨fun x o n m h => b.kp x o n m (a.kp x o n m h), fun x h => a.fr x (b.fr x h)⟩
theorem R.new (h : H p = none) : R M H (upd H p o) := ⟨fun a u _ _ e => by rw [upd_ne (ne_of_none e h)]; exact e, fun a z => by
  by_cases q : a = p
  · subst q; exact .inl h
  · unfold Fr at z ⊢
    rw [upd_ne q] at z
    exact z⟩
theorem R.mut {H0 : Hp} (r : R M H0 H) (h : Fr H0 p) : R M H0 (upd H p o) := ⟨fun a u n m e => by rw [upd_ne (h.ne e n)]; exact r.kp a u n m e, fun a z => by
  by_cases q : a = p
  · subst q; exact h
  · unfold Fr at z
    rw [upd_ne q] at z
    exact r.fr a z⟩
theorem J.bagL (j : J M H) (h : IsB M p) : ∃ xs, H p = some (.lst xs) := by
  obtain ⟨c, e⟩ := h
  obtain ⟨x, s, k, cs, e1, _⟩ := j.1 p c e
  exact ⟨_, e1⟩
theorem J.tup (j : J M H) (r : R M H H1) : ∀ a xs, H a = some (.tup xs) → H1 a = some (.tup xs) := fun a xs e => r.kp a _ (fun _ z => by cases z) (fun z => by
  obtain ⟨ys, q⟩ := j.bagL z
  rw [e] at q
  cases q) e
theorem tabs_keep {T : List (Addr × Str)} (t : LamX.Tabs T H) (k : ∀ b o, (∀ xs, o ≠ .lst xs) → (∀ xs, o ≠ .dK xs) → H b = some o → H1 b = some o) : LamX.Tabs T H1 := fun q hq => by
  obtain ⟨ps, h1, h2, h3⟩ := t q hq
  refine ⟨ps, k _ _ (fun _ z => by cases z) (fun _ z => by cases z) h1, h2, fun pos cv hc => ?_⟩
  obtain ⟨cd, e1, e2⟩ := h3 pos cv hc
  refine ⟨cd, e1, k _ _ (fun _ z => ?_) (fun _ z => ?_) e2⟩ <;> (unfold LamX.CodeO at z; cases z)
theorem J.new (j : J M H) (h : H p = none) : J M (upd H p o) := by
  refine ⟨fun b c e => ?_, j.2.ext fun b u e => by rw [upd_ne (ne_of_none e h)]; exact e⟩
  obtain ⟨x, s, k, cs, e1, a1, a2, a3, a4, e2, a5⟩ := j.1 b c e
  exact ⟨x, s, k, cs, by rw [upd_ne (ne_of_none e1 h)]; exact e1, a1, a2, a3, a4, by rw [upd_ne (ne_of_none e2 h)]; exact e2, a5⟩
/-- a list or dict that was not there at the entry is changed -/
theorem J.mut {H0 : Hp} {u : HO} (j0 : J M H0) (j : J M H) (h0 : Fr H0 p) (hp : H p = some u) (hu : (∃ xs, u = .lst xs) ∨ ∃ xs, u = .dK xs) : J M (upd H p o) := by
  refine ⟨fun b c e => ?_, tabs_keep j.2 fun b v n1 n2 e => ?_⟩
  · obtain ⟨x, s, k, cs, e1, a1, a2, a3, a4, e2, a5⟩ := j.1 b c e
    obtain ⟨_, _, _, _, f1, _, _, _, _, f2, _⟩ := j0.1 b c e
    exact ⟨x, s, k, cs, by rw [upd_ne (h0.ne f1 (fun _ z => by cases z))]; exact e1, a1, a2, a3, a4, by rw [upd_ne (h0.ne f2 (fun _ z => by cases z))]; exact e2, a5⟩
  · rw [upd_ne (fun z => ?_)]
    · exact e
    · subst z
      rw [hp] at e
      cases e
      rcases hu with ⟨xs, q⟩ | ⟨xs, q⟩
      · exact n1 _ q
      · exact n2 _ q
end

/-! ### slots -/
inductive SD where
  | no | val (d : D) | own (ds : List D) | dic (kvs : List (Int × D))
def Ow (G : List SD) (i : Nat) : Prop := (∃ ds, G[i]? = some (.own ds)) ∨ ∃ kvs, G[i]? = some (.dic kvs)
def Av (M : Md) (G : List SD) (A : Nat → Addr) (p : Addr) : Prop := IsB M p ∨ ∃ i, Ow G i ∧ p = A i
def SlOk (M : Md) (G : List SD) (A : Nat → Addr) (H : Hp) (σ : L2.St) (i : Nat) : SD → Prop
  | .no => True
  | .val d => ∃ v, σ[i]? = some (some v) ∧ Has (Av M G A) H d v
  | .own ds => σ[i]? = some (some (.ref (A i))) ∧ ∃ xs, H (A i) = some (.lst xs) ∧ HasL (Av M G A) H ds xs
  | .dic kvs => σ[i]? = some (some (.ref (A i))) ∧ ∃ ks : List (Key × V), H (A i) = some (.dK ks) ∧ ks.map (·.1) = kvs.map (fun p => Sum.inl p.1) ∧ HasL (Av M G A) H (kvs.map (·.2)) (ks.map (·.2))
/-- what a loop walks: a list, a tuple, as it stands -/
inductive Gh where
  | l (a : Addr) (ds : List D) (xs : List V) | t (a : Addr) (ds : List D) (xs : List V) | s (ds : List D) (xs : List V)
def GhOk (N : Addr → Prop) (H : Hp) : Gh → Prop
  | .l a ds xs => ¬ N a ∧ H a = some (.lst xs) ∧ HasL N H ds xs
  | .t a ds xs => H a = some (.tup xs) ∧ HasL N H ds xs
  | .s ds xs => HasL N H ds xs
theorem GhOk.keep {N N' : Addr → Prop} {H H' : Hp} {g : Gh} (h : GhOk N H g) (ht : ∀ a xs, H a = some (.tup xs) → H' a = some (.tup xs)) (hl : ∀ a xs, ¬ N a → H a = some (.lst xs) → ¬ N' a ∧ H' a = some (.lst xs)) : GhOk N' H' g := by
  cases g with
  | l a ds xs =>
    obtain ⟨h1, h2, h3⟩ := h
    exact ⟨(hl _ _ h1 h2).1, (hl _ _ h1 h2).2, HasL.keep ht hl _ _ h3⟩
  | t a ds xs =>
    obtain ⟨h2, h3⟩ := h
    exact ⟨ht _ _ h2, HasL.keep ht hl _ _ h3⟩
  | s ds xs => exact HasL.keep ht hl _ _ h
structure Cn where
  M : Md
  H0 : Hp
  Z : List Gh
def Cn.gh (C : Cn) (g : Gh) : Cn := { C with Z := g :: C.Z }
structure Est (C : Cn) (G : List SD) (A : Nat → Addr) (σ : L2.St) (H : Hp) : Prop where
  j0 : J C.M C.H0
  j : J C.M H
  r : R C.M C.H0 H
  len : G.length = σ.length
  inj : ∀ i j, Ow G i → Ow G j → A i = A j → i = j
  new : ∀ i, Ow G i → Fr C.H0 (A i)
  sl : ∀ i s, G[i]? = some s → SlOk C.M G A H σ i s
  gh : ∀ g ∈ C.Z, GhOk (Av C.M G A) H g

section
variable {C : Cn} {H H1 H2 : Hp} {G : List SD} {A : Nat → Addr} {σ : L2.St}
theorem Est.nb (E : Est C G A σ H) {i : Nat} (h : Ow G i) : ¬ IsB C.M (A i) := fun z => by
  obtain ⟨xs, e⟩ := E.j0.bagL z
  exact (E.new i h).ne e (fun _ z => by cases z) rfl
theorem Has.go (j : J C.M H) (r : R C.M H H1) {d : D} {v : V} (h : Has (Av C.M G A) H d v) : Has (Av C.M G A) H1 d v :=
  Has.keep (j.tup r) (fun a xs n e => ⟨n, r.kp a _ (fun _ z => by cases z) (fun z => n (.inl z)) e⟩) d v h
theorem HasL.go (j : J C.M H) (r : R C.M H H1) {ds : List D} {vs : List V} (h : HasL (Av C.M G A) H ds vs) : HasL (Av C.M G A) H1 ds vs :=
  HasL.keep (j.tup r) (fun a xs n e => ⟨n, r.kp a _ (fun _ z => by cases z) (fun z => n (.inl z)) e⟩) ds vs h
/-- the state goes on -/
theorem Est.go (E : Est C G A σ H) (j : J C.M H1) (r : R C.M H H1) : Est C G A σ H1 where
  j0 := E.j0
  j := j
  r := E.r.trans r
  len := E.len
  inj := E.inj
  new := E.new
  sl := fun i s e => by
    have q := E.sl i s e
    cases s with
    | no => trivial
    | val d =>
      obtain ⟨v, e1, h⟩ := q
      exact ⟨v, e1, h.go E.j r⟩
    | own ds =>
      obtain ⟨e1, xs, e2, h⟩ := q
      exact ⟨e1, xs, r.kp _ _ (fun _ z => by cases z) (E.nb (.inl ⟨ds, e⟩)) e2, h.go E.j r⟩
    | dic kvs =>
      obtain ⟨e1, xs, e2, e3, h⟩ := q
      exact ⟨e1, xs, r.kp _ _ (fun _ z => by cases z) (E.nb (.inr ⟨kvs, e⟩)) e2, e3, h.go E.j r⟩
  gh := fun g hg => (E.gh g hg).keep (E.j.tup r) (fun a xs n e => ⟨n, r.kp a _ (fun _ z => by cases z) (fun z => n (.inl z)) e⟩)
/-- a new object is none that is to be left -/
theorem Est.avN (E : Est C G A σ H) {p : Addr} (h : H p = none) : ¬ Av C.M G A p := fun z => by
  rcases z with z | ⟨i, o, e⟩
  · obtain ⟨xs, q⟩ := E.j.bagL z
    rw [h] at q
    cases q
  · rcases o with ⟨ds, g⟩ | ⟨ds, g⟩
    · obtain ⟨_, xs, q, _⟩ := E.sl i _ g
      rw [← e, h] at q
      cases q
    · obtain ⟨_, xs, q, _⟩ := E.sl i _ g
      rw [← e, h] at q
      cases q
end

/-! ### what an expression gives -/
def wE (X : Cx) (e : Expr) : TE := fun σ H Q => ∀ pins s, Inv X pins σ H s → wpAny (model X.prog X.w) X.A (eval e X.env) (EP X pins σ Q) X.xe s
def wT (X : Cx) (e : Expr) : TT := fun σ H Q => ∀ pins s, Inv X pins σ H s → wpAny (model X.prog X.w) X.A (isTrue e X.env (eval e X.env)) (TP X pins σ Q) X.xe s
def wA (X : Cx) (es : List Expr) : TA := fun σ H Q => ∀ pos pins s, Inv X pins σ H s → wpAny (model X.prog X.w) X.A (spliced (backTo pos (starEach es X.env))) (AP X pins σ Q) X.xe s
def wS (X : Cx) (st : Stmt) : TS := fun D σ H => ∀ pins s, Inv X pins σ H s → wpAny (model X.prog X.w) X.A (exec st X.env) (SP X pins D) X.xe s
def wSs (X : Cx) (st : List Stmt) : TS := fun D σ H => ∀ pins s, Inv X pins σ H s → wpAny (model X.prog X.w) X.A (execs st X.env) (SP X pins D) X.xe s
section
variable {X : Cx} {e : Expr} {es : List Expr} {st : Stmt} {sts : List Stmt} {σ : L2.St} {H : Hp}
theorem pwE : PE X e (wE X e) := ⟨fun pins s _ _ _ I h => h pins s I⟩
theorem pwT : PT X e (wT X e) := ⟨fun pins s _ _ _ I h => h pins s I⟩
theorem pwA : PA X es (wA X es) := ⟨fun pos pins s _ _ _ I h => h pos pins s I⟩
theorem pwS : PS X st (wS X st) := ⟨fun pins s _ _ _ I h => h pins s I⟩
theorem pwSs : PSs X sts (wSs X sts) := ⟨fun pins s _ _ _ I h => h pins s I⟩
theorem toE {t : TE} {Q : VK} (h : PE X e t) (q : t σ H Q) : wE X e σ H Q := fun pins s I => h.run pins s σ H Q I q
theorem toT {t : TT} {Q : Bool → Hp → Prop} (h : PT X e t) (q : t σ H Q) : wT X e σ H Q := fun pins s I => h.run pins s σ H Q I q
theorem toA {t : TA} {Q : List V → Hp → Prop} (h : PA X es t) (q : t σ H Q) : wA X es σ H Q := fun pos pins s I => h.run pos pins s σ H Q I q
theorem toS {t : TS} {D : Ends} (h : PS X st t) (q : t D σ H) : wS X st D σ H := fun pins s I => h.run pins s σ H D I q
theorem toSs {t : TS} {D : Ends} (h : PSs X sts t) (q : t D σ H) : wSs X sts D σ H := fun pins s I => h.run pins s σ H D I q
end

section
variable (X : Cx) (C : Cn) (G : List SD)
/-- e gives data of which K holds -/
def W (e : Expr) (K : D → Prop) : Prop := ∀ A σ H, Est C G A σ H → ∀ Q : VK, (∀ d v H2, R C.M H H2 → J C.M H2 → Has (Av C.M G A) H2 d v → K d → Q v H2) → wE X e σ H Q
def WT (e : Expr) (K : Bool → Prop) : Prop := ∀ A σ H, Est C G A σ H → ∀ Q : Bool → Hp → Prop, (∀ b H2, R C.M H H2 → J C.M H2 → K b → Q b H2) → wT X e σ H Q
def WA (es : List Expr) (K : List D → Prop) : Prop := ∀ A σ H, Est C G A σ H → ∀ Q : List V → Hp → Prop, (∀ ds vs H2, R C.M H H2 → J C.M H2 → HasL (Av C.M G A) H2 ds vs → K ds → Q vs H2) → wA X es σ H Q
end
/-- KD: what shall hold when a statement has run -/
structure KD where
  nx : List SD → Prop
  rt : D → Prop := fun _ => False
  bk : List SD → Prop := fun _ => False
  ct : List SD → Prop := fun _ => False
def AvM (M : Md) : Addr → Prop := IsB M
structure EndsOk (C : Cn) (K : KD) (D : Ends) : Prop where
  nx : ∀ G A σ H, Est C G A σ H → K.nx G → D.nx σ H
  rt : ∀ d v H, J C.M H → R C.M C.H0 H → Has (AvM C.M) H d v → K.rt d → D.rt v H
  bk : ∀ G A σ H, Est C G A σ H → K.bk G → D.bk σ H
  ct : ∀ G A σ H, Est C G A σ H → K.ct G → D.ct σ H
section
variable (X : Cx) (C : Cn) (G : List SD)
def WS (st : Stmt) (K : KD) : Prop := ∀ A σ H, Est C G A σ H → ∀ D : Ends, EndsOk C K D → wS X st D σ H
def WSs (sts : List Stmt) (K : KD) : Prop := ∀ A σ H, Est C G A σ H → ∀ D : Ends, EndsOk C K D → wSs X sts D σ H
end

section
variable {X : Cx} {C : Cn} {G : List SD} {K : D → Prop} {KT : Bool → Prop} {KA : List D → Prop} {KS : KD} {a b c e : Expr} {es : List Expr} {pos : Pos}
theorem W.mono {K' : D → Prop} (h : W X C G e K) (k : ∀ d, K d → K' d) : W X C G e K' := fun A σ H E Q q => h A σ H E Q fun d v H2 r j hd hk => q d v H2 r j hd (k d hk)
theorem WT.mono {K' : Bool → Prop} (h : WT X C G e KT) (k : ∀ d, KT d → K' d) : WT X C G e K' := fun A σ H E Q q => h A σ H E Q fun d H2 r j hk => q d H2 r j (k d hk)
/-! ### names, constants -/
theorem w_int {i j} (k : K (.int i)) : W X C G (.Constant (.int i) j pos) K := fun A σ H E Q q => toE pe_int (q _ _ H R.refl E.j hasI k)
theorem w_non {j} (k : K .non) : W X C G (.Constant .none j pos) K := fun A σ H E Q q => toE pe_non (q _ _ H R.refl E.j hasN k)
theorem w_bl {z j} (k : K (.bl z)) : W X C G (.Constant (.bool z) j pos) K := fun A σ H E Q q => toE pe_bl (q _ _ H R.refl E.j hasB k)
theorem w_v (i : Nat) {x : Str} {d : D} (h : G[i]? = some (.val d)) (k : K d) (hN : X.N[i]? = some x := by rfl) (hv : Vis X.env.scope x := by first | exact Or.inl rfl | exact Or.inr (Or.inl rfl) | exact Or.inr (Or.inr rfl)) (hd : (x == ("__debug__" : Str)) = false := by decide)
    (hcd : (x == ("__classdict__" : Str)) = false := by decide) : W X C G (.Name x pos) K := fun A σ H E Q q => by
  obtain ⟨v, e, hh⟩ := E.sl i _ h
  exact toE (pv i hN hv hd hcd) ⟨v, e, q d v H R.refl E.j hh k⟩
/-! ### two in a row -/
theorem w_two {r : R2} {t : Expr} (hp : PE X t (tOp r (wE X a) (wE X b))) {K2 : D → D → Prop}
    (ha : W X C G a fun da => W X C G b fun db => K2 da db)
    (hr : ∀ A H x y da db Q, J C.M H → Has (Av C.M G A) H da x → Has (Av C.M G A) H db y → K2 da db → (∀ d v H2, R C.M H H2 → J C.M H2 → Has (Av C.M G A) H2 d v → K d → Q v H2) → (∀ p, H p = none → ¬ Av C.M G A p) → r x y H Q) : W X C G t K := fun A σ H E Q q => by
  refine toE hp ?_
  refine ha A σ H E _ fun da x H1 r1 j1 h1 k1 => ?_
  refine k1 A σ H1 (E.go j1 r1) _ fun db y H2 r2 j2 h2 k2 => ?_
  exact hr A H2 x y da db Q j2 (h1.go j1 r2) h2 k2 (fun d v H3 r3 j3 h3 k3 => q d v H3 (r1.trans (r2.trans r3)) j3 h3 k3) fun p hp => (E.go j2 (r1.trans r2)).avN hp
theorem w_opI {op : Operator} {Cd : Int → Int → Prop} {g : Int → Int → Int} (ho : OpR X (binaryOp op) (rI Cd fun i j => .int (g i j)))
    (h : W X C G a fun da => W X C G b fun db => ∃ i j, da = .int i ∧ db = .int j ∧ Cd i j ∧ K (.int (g i j))) : W X C G (.BinOp a op b pos) K :=
  w_two (pe_op ho pwE pwE) h fun A H x y da db Q j hx hy k q _ => by
    obtain ⟨i, jj, rfl, rfl, c, k⟩ := k
    exact ⟨i, jj, hx, hy, c, q _ _ H R.refl j hasI k⟩
theorem w_opI0 {op : Operator} {g : Int → Int → Int} (ho : OpR X (binaryOp op) (rI0 fun i j => .int (g i j)))
    (h : W X C G a fun da => W X C G b fun db => ∃ i j, da = .int i ∧ db = .int j ∧ K (.int (g i j))) : W X C G (.BinOp a op b pos) K :=
  w_two (pe_op ho pwE pwE) h fun A H x y da db Q j hx hy k q _ => by
    obtain ⟨i, jj, rfl, rfl, k⟩ := k
    exact ⟨i, jj, hx, hy, q _ _ H R.refl j hasI k⟩
theorem w_add (h : W X C G a fun da => W X C G b fun db => ∃ i j, da = .int i ∧ db = .int j ∧ K (.int (i + j))) : W X C G (.BinOp a .Add b pos) K := w_opI0 op_add h
theorem w_sub (h : W X C G a fun da => W X C G b fun db => ∃ i j, da = .int i ∧ db = .int j ∧ K (.int (i - j))) : W X C G (.BinOp a .Sub b pos) K := w_opI0 op_sub h
/-- products, // as the model bears them -/
def MulOk (i j : Int) : Prop := i.natAbs.log2 + j.natAbs.log2 < 100000000
def DivOk (i j : Int) : Prop := 0 < j ∧ (j.natAbs.log2 < 9000 ∨ i.natAbs.log2 < j.natAbs.log2 + 4400)
theorem MulOk.ok {i j : Int} (h : MulOk i j) : IntMulOk i j := by
  have bts : ∀ x : Int, Builtin.Int.intBits x ≤ x.natAbs.log2 + 1 := fun x => by
    unfold Builtin.Int.intBits
    split <;> omega
  have h1 := bts i
  have h2 := bts j
  have h3 : i.natAbs.log2 + j.natAbs.log2 < 100000000 := h
  have eLine : bitsLine = 134217728 := by decide
  unfold IntMulOk
  intro z
  rw [Bool.and_eq_true] at z
  have z2 := z.2
  have z3 := of_decide_eq_true (show decide _ = true from z2)
  rw [eLine] at z3
  omega
theorem DivOk.ok {i j : Int} (h : DivOk i j) : Builtin.divisionGoesByPylong i j = false := by
  obtain ⟨h0, h | h⟩ := h
  · exact PyProof.noPylong_of_log2 h
  · show (decide ((if j == 0 then 0 else j.natAbs.log2 / 30 + 1) > 300) && decide ((if i == 0 then 0 else i.natAbs.log2 / 30 + 1) > (if j == 0 then 0 else j.natAbs.log2 / 30 + 1) + 150)) = false
    rw [Bool.and_eq_false_iff]
    right
    apply decide_eq_false
    have hj : (j == 0) = false := beq_eq_false_iff_ne.mpr (by omega)
    rw [hj]
    by_cases hi : (i == 0) = true
    · rw [hi]; simp
    · rw [Bool.not_eq_true] at hi
      rw [hi]
      simp only [if_false, Bool.false_eq_true]
      omega
theorem op_mulB : OpR X (binaryOp .Mult) (rI MulOk fun i j => .int (i * j)) := opI fun _ _ _ _ _ _ _ hc q => mul_int q hc.ok
theorem op_divB : OpR X (binaryOp .FloorDiv) (rI DivOk fun i j => .int (i / j)) := opI fun i j _ _ _ _ _ hc q => by
  have h1 : 0 < j := hc.1
  exact floordiv_int (by omega) (by rw [Int.fdiv_eq_ediv_of_nonneg i (by omega)]; exact q) (.inl hc.ok)
theorem w_mul (h : W X C G a fun da => W X C G b fun db => ∃ i j, da = .int i ∧ db = .int j ∧ MulOk i j ∧ K (.int (i * j))) : W X C G (.BinOp a .Mult b pos) K := w_opI op_mulB h
theorem w_div (h : W X C G a fun da => W X C G b fun db => ∃ i j, da = .int i ∧ db = .int j ∧ DivOk i j ∧ K (.int (i / j))) : W X C G (.BinOp a .FloorDiv b pos) K := w_opI op_divB h
theorem w_mod (h : W X C G a fun da => W X C G b fun db => ∃ i j, da = .int i ∧ db = .int j ∧ 0 < j ∧ K (.int (i % j))) : W X C G (.BinOp a .Mod b pos) K := w_opI op_mod h
theorem w_pow (h : W X C G a fun da => W X C G b fun db => ∃ i j, da = .int i ∧ db = .int j ∧ CPow i j ∧ K (.int (i ^ j.toNat))) : W X C G (.BinOp a .Pow b pos) K := w_opI op_pow h
theorem w_neg (h : W X C G a fun da => ∃ i, da = .int i ∧ K (.int (-i))) : W X C G (.UnaryOp .USub a pos) K := fun A σ H E Q q => toE (pe_un un_neg pwE) (h A σ H E _ fun da x H1 r1 j1 h1 k1 => by
  obtain ⟨i, rfl, k⟩ := k1
  exact ⟨i, h1, q _ _ H1 r1 j1 hasI k⟩)
/-! ### comparisons of ints: as values, as tests -/
theorem w_cmp {op : CmpOp} {g : Int → Int → Bool} (ho : OpR X (compareOp op) (rI0 fun i j => .bl (g i j))) (n1 : op ≠ .In) (n2 : op ≠ .NotIn)
    (h : W X C G a fun da => W X C G b fun db => ∃ i j, da = .int i ∧ db = .int j ∧ K (.bl (g i j))) : W X C G (.Compare a [op] [b] pos) K :=
  w_two (pe_cmpR ho pwE pwE (nomark _ n1 n2)) h fun A H x y da db Q j hx hy k q _ => by
    obtain ⟨i, jj, rfl, rfl, k⟩ := k
    exact ⟨i, jj, hx, hy, q _ _ H R.refl j hasB k⟩
/-- a comparison of ints whatever it is used for -/
theorem op_eqI : OpR X (compareOp .Eq) (rI0 fun i j => .bl (decide (i = j))) := fun pins s σ H x y v u Q I rx ry h => by
  obtain ⟨i, j, rfl, rfl, qq⟩ := h
  refine op_eq pins s σ H _ _ v u Q I rx ry ⟨rfl, ?_⟩
  rw [show decide (V.int i = V.int j) = decide (i = j) from by rw [dec_int, Bool.beq_eq_decide_eq]]
  exact qq
theorem op_neI : OpR X (compareOp .NotEq) (rI0 fun i j => .bl (!decide (i = j))) := fun pins s σ H x y v u Q I rx ry h => by
  obtain ⟨i, j, rfl, rfl, qq⟩ := h
  refine op_ne pins s σ H _ _ v u Q I rx ry ⟨rfl, ?_⟩
  rw [show decide (V.int i = V.int j) = decide (i = j) from by rw [dec_int, Bool.beq_eq_decide_eq]]
  exact qq
theorem w_lt (h : W X C G a fun da => W X C G b fun db => ∃ i j, da = .int i ∧ db = .int j ∧ K (.bl (decide (i < j)))) : W X C G (.Compare a [.Lt] [b] pos) K := w_cmp op_lt (by decide) (by decide) h
theorem w_le (h : W X C G a fun da => W X C G b fun db => ∃ i j, da = .int i ∧ db = .int j ∧ K (.bl (decide (i ≤ j)))) : W X C G (.Compare a [.LtE] [b] pos) K := w_cmp op_le (by decide) (by decide) h
theorem w_gt (h : W X C G a fun da => W X C G b fun db => ∃ i j, da = .int i ∧ db = .int j ∧ K (.bl (decide (j < i)))) : W X C G (.Compare a [.Gt] [b] pos) K := w_cmp op_gt (by decide) (by decide) h
theorem w_ge (h : W X C G a fun da => W X C G b fun db => ∃ i j, da = .int i ∧ db = .int j ∧ K (.bl (decide (j ≤ i)))) : W X C G (.Compare a [.GtE] [b] pos) K := w_cmp op_ge (by decide) (by decide) h
theorem w_eq (h : W X C G a fun da => W X C G b fun db => ∃ i j, da = .int i ∧ db = .int j ∧ K (.bl (decide (i = j)))) : W X C G (.Compare a [.Eq] [b] pos) K := w_cmp op_eqI (by decide) (by decide) h
theorem w_ne (h : W X C G a fun da => W X C G b fun db => ∃ i j, da = .int i ∧ db = .int j ∧ K (.bl (!decide (i = j)))) : W X C G (.Compare a [.NotEq] [b] pos) K := w_cmp op_neI (by decide) (by decide) h
/-- != of truths -/
theorem w_neB (h : W X C G a fun da => W X C G b fun db => ∃ i j, da = .bl i ∧ db = .bl j ∧ K (.bl (!decide (i = j)))) : W X C G (.Compare a [.NotEq] [b] pos) K :=
  w_two (pe_cmpR op_ne pwE pwE (nomark _)) h fun A H x y da db Q j hx hy k q _ => by
    obtain ⟨i, jj, rfl, rfl, k⟩ := k
    obtain rfl : x = .bl i := hx
    obtain rfl : y = .bl jj := hy
    refine ⟨rfl, ?_⟩
    rw [show decide (V.bl i = V.bl jj) = decide (i = jj) from by rw [dec_bl, Bool.beq_eq_decide_eq]]
    exact q _ _ H R.refl j hasB k
def isNon : D → Bool
  | .non => true
  | _ => false
theorem Has.non {N : Addr → Prop} {H : Hp} {d : D} {v : V} (h : Has N H d v) : decide (v = .non) = isNon d := by
  cases d with
  | non => obtain rfl : v = .non := h; rfl
  | bl z => obtain rfl : v = .bl z := h; rfl
  | int i => obtain rfl : v = .int i := h; rfl
  | ref p => obtain rfl : v = .ref p := h; rfl
  | tup ds => obtain ⟨p, xs, rfl, _⟩ := h; rfl
  | lst ds => obtain ⟨p, xs, rfl, _⟩ := h; rfl
theorem w_isN {j p2} (h : W X C G a fun da => K (.bl (isNon da))) : W X C G (.Compare a [.Is] [.Constant .none j p2] pos) K := fun A σ H E Q q => toE (pe_cmpR op_isN pwE pe_non (nomark _)) (h A σ H E _ fun da x H1 r1 j1 h1 k1 => ⟨rfl, by
  rw [h1.non]
  exact q _ _ H1 r1 j1 hasB k1⟩)
/-! ### tests -/
/-- a comparison as a test -/
theorem wt_two {r : R2} {t : Expr} (hp : PT X t (tTest (tOp r (wE X a) (wE X b)))) {K2 : D → D → Prop}
    (ha : W X C G a fun da => W X C G b fun db => K2 da db)
    (hr : ∀ A H x y da db (Q : VK), J C.M H → Has (Av C.M G A) H da x → Has (Av C.M G A) H db y → K2 da db → (∀ z H2, R C.M H H2 → J C.M H2 → KT z → Q (.bl z) H2) → (∀ p, H p = none → ¬ Av C.M G A p) → r x y H Q) : WT X C G t KT := fun A σ H E Q q => by
  refine toT hp ?_
  refine ha A σ H E _ fun da x H1 r1 j1 h1 k1 => ?_
  refine k1 A σ H1 (E.go j1 r1) _ fun db y H2 r2 j2 h2 k2 => ?_
  exact hr A H2 x y da db _ j2 (h1.go j1 r2) h2 k2 (fun z H3 r3 j3 k3 => ⟨z, rfl, q z H3 (r1.trans (r2.trans r3)) j3 k3⟩) fun p hp => (E.go j2 (r1.trans r2)).avN hp
theorem wt_cmp {op : CmpOp} {g : Int → Int → Bool} (ho : OpR X (compareOp op) (rI0 fun i j => .bl (g i j))) (n1 : op ≠ .In) (n2 : op ≠ .NotIn)
    (h : W X C G a fun da => W X C G b fun db => ∃ i j, da = .int i ∧ db = .int j ∧ KT (g i j)) : WT X C G (.Compare a [op] [b] pos) KT :=
  wt_two (pt_cmpR ho pwE pwE (nomark _ n1 n2)) h fun A H x y da db Q j hx hy k q _ => by
    obtain ⟨i, jj, rfl, rfl, k⟩ := k
    exact ⟨i, jj, hx, hy, q _ H R.refl j k⟩
theorem wt_lt (h : W X C G a fun da => W X C G b fun db => ∃ i j, da = .int i ∧ db = .int j ∧ KT (decide (i < j))) : WT X C G (.Compare a [.Lt] [b] pos) KT := wt_cmp op_lt (by decide) (by decide) h
theorem wt_le (h : W X C G a fun da => W X C G b fun db => ∃ i j, da = .int i ∧ db = .int j ∧ KT (decide (i ≤ j))) : WT X C G (.Compare a [.LtE] [b] pos) KT := wt_cmp op_le (by decide) (by decide) h
theorem wt_gt (h : W X C G a fun da => W X C G b fun db => ∃ i j, da = .int i ∧ db = .int j ∧ KT (decide (j < i))) : WT X C G (.Compare a [.Gt] [b] pos) KT := wt_cmp op_gt (by decide) (by decide) h
theorem wt_ge (h : W X C G a fun da => W X C G b fun db => ∃ i j, da = .int i ∧ db = .int j ∧ KT (decide (j ≤ i))) : WT X C G (.Compare a [.GtE] [b] pos) KT := wt_cmp op_ge (by decide) (by decide) h
theorem wt_eq (h : W X C G a fun da => W X C G b fun db => ∃ i j, da = .int i ∧ db = .int j ∧ KT (decide (i = j))) : WT X C G (.Compare a [.Eq] [b] pos) KT := wt_cmp op_eqI (by decide) (by decide) h
theorem wt_ne (h : W X C G a fun da => W X C G b fun db => ∃ i j, da = .int i ∧ db = .int j ∧ KT (!decide (i = j))) : WT X C G (.Compare a [.NotEq] [b] pos) KT := wt_cmp op_neI (by decide) (by decide) h
theorem wt_neB (h : W X C G a fun da => W X C G b fun db => ∃ i j, da = .bl i ∧ db = .bl j ∧ KT (!decide (i = j))) : WT X C G (.Compare a [.NotEq] [b] pos) KT :=
  wt_two (pt_cmpR op_ne pwE pwE (nomark _)) h fun A H x y da db Q j hx hy k q _ => by
    obtain ⟨i, jj, rfl, rfl, k⟩ := k
    obtain rfl : x = .bl i := hx
    obtain rfl : y = .bl jj := hy
    refine ⟨rfl, ?_⟩
    rw [show decide (V.bl i = V.bl jj) = decide (i = jj) from by rw [dec_bl, Bool.beq_eq_decide_eq]]
    exact q _ H R.refl j k
theorem wt_isN {j p2} (h : W X C G a fun da => KT (isNon da)) : WT X C G (.Compare a [.Is] [.Constant .none j p2] pos) KT := fun A σ H E Q q => toT (pt_cmpR op_isN pwE pe_non (nomark _)) (h A σ H E _ fun da x H1 r1 j1 h1 k1 => ⟨rfl, _, rfl, by
  rw [h1.non]
  exact q _ H1 r1 j1 k1⟩)
theorem wt_val (h : W X C G e fun d => ∃ z, d = .bl z ∧ KT z) (he : ∀ whole, isTrue e X.env whole = (do let v ← whole; standAt e.pos; holding [v] (truthy v)) := by intro _; rfl) : WT X C G e KT :=
  fun A σ H E Q q => toT (pt_val pwE he) (h A σ H E _ fun d v H2 r j hh k => by
    obtain ⟨z, rfl, k⟩ := k
    exact ⟨z, hh, q z H2 r j k⟩)
theorem wt_not (h : WT X C G a fun z => KT (!z)) : WT X C G (.UnaryOp .Not a pos) KT := fun A σ H E Q q => toT (pt_not pwT) (h A σ H E _ fun z H2 r j k => q _ H2 r j k)
theorem wt_and (h : WT X C G a fun z => (z = true → WT X C G b KT) ∧ (z = false → KT false)) : WT X C G (.BoolOp .And [a, b] pos) KT := fun A σ H E Q q => by
  refine toT (PW.pt (pw_and pwT (pw_and1 pwT))) (h A σ H E _ fun z H2 r j k => ?_)
  cases z with
  | true => exact iteT (k.1 rfl A σ H2 (E.go j r) _ fun z' H3 r' j' k' => q _ H3 (r.trans r') j' k')
  | false => exact iteF (q _ H2 r j (k.2 rfl))
theorem wt_or (h : WT X C G a fun z => (z = true → KT true) ∧ (z = false → WT X C G b KT)) : WT X C G (.BoolOp .Or [a, b] pos) KT := fun A σ H E Q q => by
  refine toT (PW.pt (pw_or pwT (pw_or1 pwT))) (h A σ H E _ fun z H2 r j k => ?_)
  cases z with
  | true => exact iteT (q _ H2 r j (k.1 rfl))
  | false => exact iteF (k.2 rfl A σ H2 (E.go j r) _ fun z' H3 r' j' k' => q _ H3 (r.trans r') j' k')
/-- and, or as values -/
theorem w_and (h : W X C G a fun d => ∃ z, d = .bl z ∧ (z = true → W X C G b K) ∧ (z = false → K (.bl false))) : W X C G (.BoolOp .And [a, b] pos) K := fun A σ H E Q q => by
  refine toE (pe_and pwE (pe_one pwE)) (h A σ H E _ fun d v H2 r j hh k => ?_)
  obtain ⟨z, rfl, k1, k2⟩ := k
  refine ⟨z, hh, ?_⟩
  cases z with
  | true => exact iteT (k1 rfl A σ H2 (E.go j r) _ fun d' v' H3 r' j' h' k' => q _ _ H3 (r.trans r') j' h' k')
  | false => exact iteF (q _ _ H2 r j hasB (k2 rfl))
theorem w_or (h : W X C G a fun d => ∃ z, d = .bl z ∧ (z = true → K (.bl true)) ∧ (z = false → W X C G b K)) : W X C G (.BoolOp .Or [a, b] pos) K := fun A σ H E Q q => by
  refine toE (pe_or pwE (pe_one pwE)) (h A σ H E _ fun d v H2 r j hh k => ?_)
  obtain ⟨z, rfl, k1, k2⟩ := k
  refine ⟨z, hh, ?_⟩
  cases z with
  | true => exact iteT (q _ _ H2 r j hasB (k1 rfl))
  | false => exact iteF (k2 rfl A σ H2 (E.go j r) _ fun d' v' H3 r' j' h' k' => q _ _ H3 (r.trans r') j' h' k')
theorem w_if (h : WT X C G c fun z => (z = true → W X C G a K) ∧ (z = false → W X C G b K)) : W X C G (.IfExp c a b pos) K := fun A σ H E Q q => by
  refine toE (pe_ifExp pwT pwE pwE) (h A σ H E _ fun z H2 r j k => ?_)
  cases z with
  | true => exact iteT (k.1 rfl A σ H2 (E.go j r) _ fun d' v' H3 r' j' h' k' => q _ _ H3 (r.trans r') j' h' k')
  | false => exact iteF (k.2 rfl A σ H2 (E.go j r) _ fun d' v' H3 r' j' h' k' => q _ _ H3 (r.trans r') j' h' k')
/-! ### arguments, displays, subscripts -/
theorem wa_nil (k : KA []) : WA X C G [] KA := fun A σ H E Q q => toA pa_nil (q [] [] H R.refl E.j rfl k)
theorem wa_cons (h : W X C G e fun d => WA X C G es fun ds => KA (d :: ds)) (he : starEach (e :: es) X.env = (false, eval e X.env) :: starEach es X.env := by rfl) : WA X C G (e :: es) KA := fun A σ H E Q q => by
  refine toA (pa_cons pwE pwA he) (h A σ H E _ fun d v H2 r j hh k => ?_)
  refine k A σ H2 (E.go j r) _ fun ds vs H3 r' j' h' k' => ?_
  exact q (d :: ds) (v :: vs) H3 (r.trans r') j' ⟨v, vs, rfl, hh.go j r', h'⟩ k'
theorem w_tup {k : Nat} (h : WA X C G es fun ds => ds.length ≤ 1000 ∧ K (.tup ds)) : W X C G (.Tuple es k pos) K := fun A σ H E Q q => by
  refine toE (pe_tup pwA) (h A σ H E _ fun ds vs H2 r j hh k => ?_)
  have hl := HasL.len hh
  refine ⟨Nat.le_of_lt (small1000 (by omega)), fun p hp => ?_⟩
  have r2 : R C.M H2 (upd H2 p (.tup vs)) := R.new hp
  exact q (.tup ds) _ _ (r.trans r2) (j.new hp) ⟨p, vs, rfl, upd_same, hh.go j r2⟩ k.2
theorem w_lst (h : WA X C G es fun ds => ds.length ≤ 1000 ∧ K (.lst ds)) : W X C G (.List es pos) K := fun A σ H E Q q => by
  refine toE (pe_lst pwA) (h A σ H E _ fun ds vs H2 r j hh k => ?_)
  have hl := HasL.len hh
  refine ⟨Nat.le_of_lt (small1000 (by omega)), fun p hp => ?_⟩
  have r2 : R C.M H2 (upd H2 p (.lst vs)) := R.new hp
  exact q (.lst ds) _ _ (r.trans r2) (j.new hp) ⟨p, vs, rfl, (E.go j r).avN hp, upd_same, hh.go j r2⟩ k.2
theorem HasL.atI {N : Addr → Prop} {H : Hp} {ds : List D} {xs : List V} {i : Int} {d : D} (h : HasL N H ds xs) (e : L2.atI ds i = some d) : ∃ x, L2.atI xs i = some x ∧ Has N H d x := by
  have hl := HasL.len h
  unfold L2.atI at e ⊢
  rw [hl]
  cases q : ixN ds.length i with
  | none =>
    rw [q] at e
    cases e
  | some j =>
    rw [q] at e
    exact HasL.get h e
theorem w_ix (h : W X C G a fun da => W X C G b fun db => ∃ ds i d, (da = .tup ds ∨ da = .lst ds) ∧ db = .int i ∧ L2.atI ds i = some d ∧ K d) (hs : PlainIx b := by exact fun _ _ => rfl) : W X C G (.Subscript a b pos) K :=
  w_two (pe_ix ix_seq pwE pwE hs) h fun A H x y da db Q j hx hy k q _ => by
    obtain ⟨ds, i, d, hd, rfl, e, k⟩ := k
    obtain rfl : y = .int i := hy
    rcases hd with rfl | rfl
    · obtain ⟨p, xs, rfl, hp, hL⟩ : ∃ p xs, x = .ref p ∧ H p = some (.tup xs) ∧ HasL _ H ds xs := hx
      obtain ⟨z, e2, hz⟩ := HasL.atI hL e
      exact .inr (.inl ⟨p, xs, i, z, rfl, rfl, SqT.of hp, e2, q d z H R.refl j hz k⟩)
    · obtain ⟨p, xs, rfl, _, hp, hL⟩ : ∃ p xs, x = .ref p ∧ ¬ _ ∧ H p = some (.lst xs) ∧ HasL _ H ds xs := hx
      obtain ⟨z, e2, hz⟩ := HasL.atI hL e
      exact .inl ⟨p, xs, i, z, rfl, rfl, SqL.of hp, e2, q d z H R.refl j hz k⟩
end
end FL
end
section
set_option Elab.async false
set_option linter.all false
set_option maxRecDepth 100000
/-! Calls, built-ins, statements, loops of the layer. -/
namespace FL
open PySem PySem.Spec PyProof.Rows L2

/-! ### defs -/
def spF (F : Md → List D → (D → Prop) → Prop) : Sp := fun vs H Q _ => ∃ M ds K, J M H ∧ HasL (AvM M) H ds vs ∧ F M ds K ∧ ∀ d v H', R M H H' → J M H' → Has (AvM M) H' d v → K d → Q v H'
structure FnR (P : Program) (w : World) (K : PySem.W.Frag) (mg : Str → Option Value) (base : Heap) (x : Str) (k : Nat) (F : Md → List D → (D → Prop) → Prop) : Prop where
  ex : ∃ f fd ps, FnOk P w K mg base CX0 k f fd ps (spF F) ∧ mg x = some (.ref f) ∧ PySem.W.keepIn K (.ref f) = true ∧ Binds K fd ps []
abbrev Fn (X : Cx) (x : Str) (k : Nat) (F : Md → List D → (D → Prop) → Prop) : Prop := FnR X.prog X.w X.K X.mg X.base x k F

theorem toM {M : Md} {G : List SD} {A : Nat → Addr} {H : Hp} {d : D} {v : V} (h : Has (Av M G A) H d v) : Has (AvM M) H d v := Has.keep (fun _ _ e => e) (fun a xs n e => ⟨fun z => n (.inl z), e⟩) d v h
theorem toML {M : Md} {G : List SD} {A : Nat → Addr} {H : Hp} {d : List D} {v : List V} (h : HasL (Av M G A) H d v) : HasL (AvM M) H d v := HasL.keep (fun _ _ e => e) (fun a xs n e => ⟨fun z => n (.inl z), e⟩) d v h
def noOw (G : List SD) : Bool := G.all fun s => match s with
  | .own _ => false
  | .dic _ => false
  | _ => true
theorem noOw_ow {G : List SD} (h : noOw G = true) (i : Nat) : ¬ Ow G i := fun z => by
  rcases z with ⟨ds, e⟩ | ⟨ds, e⟩
  · exact absurd (List.all_eq_true.mp h _ (List.mem_of_getElem? e)) (fun z => Bool.noConfusion z)
  · exact absurd (List.all_eq_true.mp h _ (List.mem_of_getElem? e)) (fun z => Bool.noConfusion z)
theorem ofM {M : Md} {G : List SD} {A : Nat → Addr} {H : Hp} {d : D} {v : V} (g : noOw G = true) (h : Has (AvM M) H d v) : Has (Av M G A) H d v := Has.keep (fun _ _ e => e) (fun a xs n e => ⟨fun z => by
  rcases z with z | ⟨i, o, _⟩
  · exact n z
  · exact noOw_ow g i o, e⟩) d v h

section
variable {X : Cx} {C : Cn} {G : List SD} {K : D → Prop} {KT : Bool → Prop} {KA : List D → Prop} {KS : KD} {a b c e : Expr} {es : List Expr} {pos p : Pos} {x : Str} {k : Nat} {F : Md → List D → (D → Prop) → Prop}
theorem w_call (g : Fn X x k F) (hr : Room k X.A) (h : WA X C G (e :: es) fun ds => F C.M ds fun d => imm d = true ∧ K d) (hg : Gl X x := by rfl) (hdb : (x == ("__debug__" : Str)) = false := by decide)
    (he : starEach (e :: es) X.env = (false, eval e X.env) :: starEach es X.env := by rfl) (hpl : (backTo pos (starEach es X.env)).any (·.1) = false := by rfl) : W X C G (.Call (.Name x p) (e :: es) [] pos) K := fun A σ H E Q q => by
  obtain ⟨f, fd, ps, ok, gm, kp, bS⟩ := g.ex
  refine toE (pe_call ok hr hg gm kp bS .nil pass0 pwA hdb he hpl) ?_
  refine h A σ H E _ fun ds vs H1 r j hh kF => ?_
  show spF F (vs ++ []) H1 Q E0
  rw [List.append_nil]
  exact ⟨C.M, ds, _, j, toML hh, kF, fun d v H' r' j' hd hk => q d v H' (r.trans r') j' (Has.immK (fun _ _ e => e) d v hk.1 hd) hk.2⟩
theorem w_callL (g : Fn X x k F) (hr : Room k X.A) (no : noOw G = true) (h : WA X C G (e :: es) fun ds => F C.M ds K) (hg : Gl X x := by rfl) (hdb : (x == ("__debug__" : Str)) = false := by decide)
    (he : starEach (e :: es) X.env = (false, eval e X.env) :: starEach es X.env := by rfl) (hpl : (backTo pos (starEach es X.env)).any (·.1) = false := by rfl) : W X C G (.Call (.Name x p) (e :: es) [] pos) K := fun A σ H E Q q => by
  obtain ⟨f, fd, ps, ok, gm, kp, bS⟩ := g.ex
  refine toE (pe_call ok hr hg gm kp bS .nil pass0 pwA hdb he hpl) ?_
  refine h A σ H E _ fun ds vs H1 r j hh kF => ?_
  show spF F (vs ++ []) H1 Q E0
  rw [List.append_nil]
  exact ⟨C.M, ds, _, j, toML hh, kF, fun d v H' r' j' hd hk => q d v H' (r.trans r') j' (ofM no hd) hk⟩
/-! ### built-ins -/
theorem w_b {id : String} {r : List V → Hp → VK → Prop} (hc : CallR X (.builtin id) r) (hm : X.mg x = none) (hv : bootBuiltins x = some (.builtin id)) (hn : x ≠ "__name__") (hdb : (x == ("__debug__" : Str)) = false) (hg : Gl X x) (he : starEach (e :: es) X.env = (false, eval e X.env) :: starEach es X.env) (hpl : (backTo pos (starEach es X.env)).any (·.1) = false)
    (KB : List D → Prop) (h : WA X C G (e :: es) KB)
    (hr : ∀ A H ds vs Q, J C.M H → HasL (Av C.M G A) H ds vs → KB ds → (∀ d v H2, R C.M H H2 → J C.M H2 → Has (Av C.M G A) H2 d v → K d → Q v H2) → (∀ p, H p = none → ¬ Av C.M G A p) → r vs H Q) : W X C G (.Call (.Name x p) (e :: es) [] pos) K := fun A σ H E Q q => by
  refine toE (pe_callB hc hg hm hv pwA hn hdb he hpl) ?_
  refine h A σ H E _ fun ds vs H1 r j hh kB => ?_
  exact hr A H1 ds vs Q j hh kB (fun d v H2 r2 j2 hd hk => q d v H2 (r.trans r2) j2 hd hk) fun p hp => (E.go j r).avN hp
theorem w_ty {id : String} {r : List V → Hp → VK → Prop} (hc : CallR X (.type id) r) (hm : X.mg x = none) (hv : bootBuiltins x = some (.type id)) (hn : x ≠ "__name__") (hdb : (x == ("__debug__" : Str)) = false) (hg : Gl X x) (he : starEach (e :: es) X.env = (false, eval e X.env) :: starEach es X.env) (hpl : (backTo pos (starEach es X.env)).any (·.1) = false)
    (KB : List D → Prop) (h : WA X C G (e :: es) KB)
    (hr : ∀ A H ds vs Q, J C.M H → HasL (Av C.M G A) H ds vs → KB ds → (∀ d v H2, R C.M H H2 → J C.M H2 → Has (Av C.M G A) H2 d v → K d → Q v H2) → (∀ p, H p = none → ¬ Av C.M G A p) → r vs H Q) : W X C G (.Call (.Name x p) (e :: es) [] pos) K := fun A σ H E Q q => by
  refine toE (pe_callTy hc hg hm hv pwA hn hdb he hpl) ?_
  refine h A σ H E _ fun ds vs H1 r j hh kB => ?_
  exact hr A H1 ds vs Q j hh kB (fun d v H2 r2 j2 hd hk => q d v H2 (r.trans r2) j2 hd hk) fun p hp => (E.go j r).avN hp
theorem HasL.one' {N : Addr → Prop} {H : Hp} {d : D} {vs : List V} (h : HasL N H [d] vs) : ∃ v, vs = [v] ∧ Has N H d v := by
  obtain ⟨x, r, e, h1, h2⟩ : ∃ x r, vs = x :: r ∧ Has N H d x ∧ HasL N H [] r := h
  obtain rfl : r = [] := h2
  exact ⟨x, e, h1⟩
theorem HasL.two' {N : Addr → Prop} {H : Hp} {d d2 : D} {vs : List V} (h : HasL N H [d, d2] vs) : ∃ v w, vs = [v, w] ∧ Has N H d v ∧ Has N H d2 w := by
  obtain ⟨x, r, e, h1, h2⟩ : ∃ x r, vs = x :: r ∧ Has N H d x ∧ HasL N H [d2] r := h
  obtain ⟨w, rfl, h3⟩ := HasL.one' h2
  exact ⟨x, w, e, h1, h3⟩
theorem w_abs (hm : X.mg "abs" = none) (h : W X C G e fun d => ∃ i, d = .int i ∧ K (.int (if i < 0 then -i else i))) (hg : Gl X "abs" := by rfl) (he : starEach [e] X.env = (false, eval e X.env) :: starEach [] X.env := by rfl) (hpl : (backTo pos (starEach [] X.env)).any (·.1) = false := by rfl) : W X C G (.Call (.Name "abs" p) [e] [] pos) K :=
  w_b call_abs hm (by decide +kernel) (by decide) (by decide) hg he hpl (fun ds => ∃ i, ds = [.int i] ∧ K (.int (if i < 0 then -i else i))) (wa_cons (h.mono fun d ⟨i, e, k⟩ => wa_nil ⟨i, by rw [e], k⟩) he)
    fun A H ds vs Q j hh kB q _ => by
      obtain ⟨i, rfl, k⟩ := kB
      obtain ⟨v, rfl, hv⟩ := HasL.one' hh
      obtain rfl : v = .int i := hv
      exact ⟨i, rfl, q _ _ H R.refl j hasI k⟩
theorem w_toint (hm : X.mg "int" = none) (h : W X C G e fun d => (∃ i, d = .int i ∧ K (.int i)) ∨ ∃ z, d = .bl z ∧ K (.int (if z = true then 1 else 0))) (hg : Gl X "int" := by rfl) (he : starEach [e] X.env = (false, eval e X.env) :: starEach [] X.env := by rfl) (hpl : (backTo pos (starEach [] X.env)).any (·.1) = false := by rfl) : W X C G (.Call (.Name "int" p) [e] [] pos) K :=
  w_ty call_int1 hm (by decide +kernel) (by decide) (by decide) hg he hpl (fun ds => (∃ i, ds = [.int i] ∧ K (.int i)) ∨ ∃ z, ds = [.bl z] ∧ K (.int (if z = true then 1 else 0))) (wa_cons (h.mono fun d h => wa_nil (by
      rcases h with ⟨i, e, k⟩ | ⟨i, e, k⟩
      · exact .inl ⟨i, by rw [e], k⟩
      · exact .inr ⟨i, by rw [e], k⟩)) he)
    fun A H ds vs Q j hh kB q _ => by
      rcases kB with ⟨i, rfl, k⟩ | ⟨i, rfl, k⟩
      · obtain ⟨v, rfl, hv⟩ := HasL.one' hh
        obtain rfl : v = .int i := hv
        exact .inl ⟨i, rfl, q _ _ H R.refl j hasI k⟩
      · obtain ⟨v, rfl, hv⟩ := HasL.one' hh
        obtain rfl : v = .bl i := hv
        exact .inr ⟨i, rfl, q _ _ H R.refl j hasI k⟩
theorem w_len (hm : X.mg "len" = none) (h : W X C G e fun d => ∃ ds, (d = .tup ds ∨ d = .lst ds) ∧ K (.int ds.length)) (hg : Gl X "len" := by rfl) (he : starEach [e] X.env = (false, eval e X.env) :: starEach [] X.env := by rfl) (hpl : (backTo pos (starEach [] X.env)).any (·.1) = false := by rfl) : W X C G (.Call (.Name "len" p) [e] [] pos) K :=
  w_b call_len_seq hm (by decide +kernel) (by decide) (by decide) hg he hpl (fun as => ∃ ds d, as = [d] ∧ (d = .tup ds ∨ d = .lst ds) ∧ K (.int ds.length)) (wa_cons (h.mono fun d ⟨ds, e, k⟩ => wa_nil ⟨ds, d, rfl, e, k⟩) he)
    fun A H as vs Q j hh kB q _ => by
      obtain ⟨ds, d, rfl, e, k⟩ := kB
      obtain ⟨v, rfl, hv⟩ := HasL.one' hh
      rcases e with rfl | rfl
      · obtain ⟨p, xs, rfl, hp, hL⟩ : ∃ p xs, v = .ref p ∧ H p = some (.tup xs) ∧ HasL _ H ds xs := hv
        refine ⟨p, xs, rfl, .inr (SqT.of hp), ?_⟩
        rw [HasL.len hL]
        exact q _ _ H R.refl j hasI k
      · obtain ⟨p, xs, rfl, _, hp, hL⟩ : ∃ p xs, v = .ref p ∧ ¬ _ ∧ H p = some (.lst xs) ∧ HasL _ H ds xs := hv
        refine ⟨p, xs, rfl, .inl (SqL.of hp), ?_⟩
        rw [HasL.len hL]
        exact q _ _ H R.refl j hasI k
theorem w_max2 (hc : X.calm = true) (hm : X.mg "max" = none) (h : W X C G a fun da => W X C G b fun db => ∃ i j, da = .int i ∧ db = .int j ∧ K (.int (if j > i then j else i))) (hg : Gl X "max" := by rfl) (he : starEach [a, b] X.env = (false, eval a X.env) :: starEach [b] X.env := by rfl) (hpl : (backTo pos (starEach [b] X.env)).any (·.1) = false := by rfl) (he2 : starEach [b] X.env = (false, eval b X.env) :: starEach [] X.env := by rfl) :
    W X C G (.Call (.Name "max" p) [a, b] [] pos) K :=
  w_b (call_max2 hc) hm (by decide +kernel) (by decide) (by decide) hg he hpl (fun ds => ∃ i j, ds = [.int i, .int j] ∧ K (.int (if j > i then j else i))) (wa_cons (h.mono fun d h2 => wa_cons (h2.mono fun d2 ⟨i, j, e1, e2, k⟩ => wa_nil ⟨i, j, by rw [e1, e2], k⟩) he2) he)
    fun A H ds vs Q j hh kB q _ => by
      obtain ⟨i, jj, rfl, k⟩ := kB
      obtain ⟨v, w, rfl, hv, hw⟩ := HasL.two' hh
      obtain rfl : v = .int i := hv
      obtain rfl : w = .int jj := hw
      exact ⟨i, jj, rfl, q _ _ H R.refl j hasI k⟩
theorem w_min2 (hc : X.calm = true) (hm : X.mg "min" = none) (h : W X C G a fun da => W X C G b fun db => ∃ i j, da = .int i ∧ db = .int j ∧ K (.int (if j < i then j else i))) (hg : Gl X "min" := by rfl) (he : starEach [a, b] X.env = (false, eval a X.env) :: starEach [b] X.env := by rfl) (hpl : (backTo pos (starEach [b] X.env)).any (·.1) = false := by rfl) (he2 : starEach [b] X.env = (false, eval b X.env) :: starEach [] X.env := by rfl) :
    W X C G (.Call (.Name "min" p) [a, b] [] pos) K :=
  w_b (call_min2 hc) hm (by decide +kernel) (by decide) (by decide) hg he hpl (fun ds => ∃ i j, ds = [.int i, .int j] ∧ K (.int (if j < i then j else i))) (wa_cons (h.mono fun d h2 => wa_cons (h2.mono fun d2 ⟨i, j, e1, e2, k⟩ => wa_nil ⟨i, j, by rw [e1, e2], k⟩) he2) he)
    fun A H ds vs Q j hh kB q _ => by
      obtain ⟨i, jj, rfl, k⟩ := kB
      obtain ⟨v, w, rfl, hv, hw⟩ := HasL.two' hh
      obtain rfl : v = .int i := hv
      obtain rfl : w = .int jj := hw
      exact ⟨i, jj, rfl, q _ _ H R.refl j hasI k⟩
/-- tuple(list) -/
theorem w_tupOf (hm : X.mg "tuple" = none) (h : W X C G e fun d => ∃ ds, d = .lst ds ∧ K (.tup ds)) (hg : Gl X "tuple" := by rfl) (he : starEach [e] X.env = (false, eval e X.env) :: starEach [] X.env := by rfl) (hpl : (backTo pos (starEach [] X.env)).any (·.1) = false := by rfl) : W X C G (.Call (.Name "tuple" p) [e] [] pos) K :=
  w_ty call_tuple_of hm (by decide +kernel) (by decide) (by decide) hg he hpl (fun as => ∃ ds, as = [.lst ds] ∧ K (.tup ds)) (wa_cons (h.mono fun d ⟨ds, e, k⟩ => wa_nil ⟨ds, by rw [e], k⟩) he)
    fun A H as vs Q j hh kB q _ => by
      obtain ⟨ds, rfl, k⟩ := kB
      obtain ⟨v, rfl, hv⟩ := HasL.one' hh
      obtain ⟨p, xs, rfl, _, hp, hL⟩ : ∃ p xs, v = .ref p ∧ ¬ _ ∧ H p = some (.lst xs) ∧ HasL _ H ds xs := hv
      refine ⟨p, xs, rfl, .inl ⟨SqL.of hp, fun l hl => ?_⟩⟩
      have r2 : R C.M H (upd H l (.tup xs)) := R.new hl
      exact q (.tup ds) _ _ r2 (j.new hl) ⟨l, xs, rfl, upd_same, hL.go j r2⟩ k
/-! ### pairs of ints -/
def pr (p : Int × Int) : D := .tup [.int p.1, .int p.2]
def prs (ps : List (Int × Int)) : List D := ps.map pr
theorem imm_pr {p : Int × Int} : imm (pr p) = true := rfl
theorem immL_prs : ∀ {ps : List (Int × Int)}, immL (prs ps) = true
  | [] => rfl
  | p :: ps => by show (imm (pr p) && immL (prs ps)) = true; rw [immL_prs]; rfl
theorem prs_len {ps : List (Int × Int)} : (prs ps).length = ps.length := List.length_map _
theorem Has.pr {N : Addr → Prop} {H : Hp} {p : Int × Int} {v : V} (h : Has N H (pr p) v) : ∃ a, v = .ref a ∧ H a = some (.tup [.int p.1, .int p.2]) := by
  obtain ⟨a, xs, e, ha, hL⟩ : ∃ a xs, v = .ref a ∧ H a = some (.tup xs) ∧ HasL N H [.int p.1, .int p.2] xs := h
  obtain ⟨v, w, rfl, h1, h2⟩ := HasL.two' hL
  obtain rfl : v = .int p.1 := h1
  obtain rfl : w = .int p.2 := h2
  exact ⟨a, e, ha⟩
theorem has_pr {N : Addr → Prop} {H : Hp} {p : Int × Int} {a : Addr} (h : H a = some (.tup [.int p.1, .int p.2])) : Has N H (pr p) (.ref a) :=
  ⟨a, _, rfl, h, .int p.1, _, rfl, hasI, .int p.2, _, rfl, hasI, rfl⟩
def pyPrs (ps : List (Int × Int)) : List PyData := ps.map fun p => .tuple [.int p.1, .int p.2]
theorem dp_prs {Kf : PySem.W.Frag} {N : Addr → Prop} {H : Hp} : ∀ {ps : List (Int × Int)} {xs : List V}, HasL N H (prs ps) xs → DpAll Kf H xs (pyPrs ps)
  | [], xs, h => by
    obtain rfl : xs = [] := h
    exact .nil
  | p :: ps, xs, h => by
    obtain ⟨x, r, e, h1, h2⟩ : ∃ x r, xs = x :: r ∧ Has N H (pr p) x ∧ HasL N H (prs ps) r := h
    obtain ⟨a, rfl, ha⟩ := h1.pr
    subst e
    exact .cons (.tup (SqT.of ha) (.cons (.int _) (.cons (.int _) .nil))) (dp_prs h2)
theorem shaped_prs : ∀ ps : List (Int × Int), SeqAt.shaped (.list (pyPrs ps)) = true := fun ps => by
  have h1 : ∀ ps : List (Int × Int), PyData.canLayAll0 (pyPrs ps) = true := fun ps => by
    induction ps with
    | nil => rfl
    | cons p ps ih => show PyData.canLayAll0 (PyData.tuple [.int p.1, .int p.2] :: pyPrs ps) = true; simp [PyData.canLayAll0, PyData.canLay0, ih]
  have h2 : ∀ ps : List (Int × Int), PyData.depthAll (pyPrs ps) ≤ 3 := fun ps => by
    induction ps with
    | nil => simp [pyPrs, PyData.depthAll]
    | cons p ps ih => show PyData.depthAll (PyData.tuple [.int p.1, .int p.2] :: pyPrs ps) ≤ 3; simp [PyData.depthAll, PyData.depth]; omega
  unfold SeqAt.shaped
  rw [Bool.and_eq_true]
  refine ⟨by simp [PyData.canLay0, h1 ps], decide_eq_true ?_⟩
  have := h2 ps
  simp only [PyData.depth]
  omega
theorem eqv_prs : ∀ ps : List (Int × Int), PyData.eqv (.list (pyPrs ps)) (.list []) = ps.isEmpty
  | [] => by simp [pyPrs, PyData.eqv, PyData.eqvAll]
  | p :: ps => by simp [pyPrs, PyData.eqv, PyData.eqvAll]
/-- list of pairs != [], == [] -/
theorem w_neNil {p2} (hu : X.A.units + 64 < cLine) (h : W X C G e fun d => ∃ ps, d = .lst (prs ps) ∧ K (.bl (!ps.isEmpty))) : W X C G (.Compare e [.NotEq] [.List [] p2] pos) K := fun A σ H E Q q => by
  refine toE (pe_cmpR (op_neD hu) pwE (pe_lst pa_nil) (nomark _)) (h A σ H E _ fun d v H1 r j hh k => ?_)
  obtain ⟨ps, rfl, k⟩ := k
  obtain ⟨a, xs, rfl, _, ha, hL⟩ : ∃ p xs, v = .ref p ∧ ¬ _ ∧ H1 p = some (.lst xs) ∧ HasL _ H1 (prs ps) xs := hh
  refine ⟨Nat.zero_le _, fun l hl => ?_⟩
  have r2 : R C.M H1 (upd H1 l (.lst [])) := R.new hl
  refine ⟨.list (pyPrs ps), .list [], .lst (SqL.of (by rw [upd_ne (ne_of_none ha hl)]; exact ha)) (dp_prs (hL.go j r2)), .lst (SqL.of upd_same) .nil, shaped_prs ps, shaped_prs [], ?_⟩
  rw [eqv_prs]
  exact q _ _ _ (r.trans r2) (j.new hl) hasB k
theorem w_eqNil {p2} (hu : X.A.units + 64 < cLine) (h : W X C G e fun d => ∃ ps, d = .lst (prs ps) ∧ K (.bl ps.isEmpty)) : W X C G (.Compare e [.Eq] [.List [] p2] pos) K := fun A σ H E Q q => by
  refine toE (pe_cmpR (op_eqD hu) pwE (pe_lst pa_nil) (nomark _)) (h A σ H E _ fun d v H1 r j hh k => ?_)
  obtain ⟨ps, rfl, k⟩ := k
  obtain ⟨a, xs, rfl, _, ha, hL⟩ : ∃ p xs, v = .ref p ∧ ¬ _ ∧ H1 p = some (.lst xs) ∧ HasL _ H1 (prs ps) xs := hh
  refine ⟨Nat.zero_le _, fun l hl => ?_⟩
  have r2 : R C.M H1 (upd H1 l (.lst [])) := R.new hl
  refine ⟨.list (pyPrs ps), .list [], .lst (SqL.of (by rw [upd_ne (ne_of_none ha hl)]; exact ha)) (dp_prs (hL.go j r2)), .lst (SqL.of upd_same) .nil, shaped_prs ps, shaped_prs [], ?_⟩
  rw [eqv_prs]
  exact q _ _ _ (r.trans r2) (j.new hl) hasB k
theorem wt_neNil {p2} (hu : X.A.units + 64 < cLine) (h : W X C G e fun d => ∃ ps, d = .lst (prs ps) ∧ KT (!ps.isEmpty)) : WT X C G (.Compare e [.NotEq] [.List [] p2] pos) KT := fun A σ H E Q q => by
  refine toT (pt_cmpR (op_neD hu) pwE (pe_lst pa_nil) (nomark _)) (h A σ H E _ fun d v H1 r j hh k => ?_)
  obtain ⟨ps, rfl, k⟩ := k
  obtain ⟨a, xs, rfl, _, ha, hL⟩ : ∃ p xs, v = .ref p ∧ ¬ _ ∧ H1 p = some (.lst xs) ∧ HasL _ H1 (prs ps) xs := hh
  refine ⟨Nat.zero_le _, fun l hl => ?_⟩
  have r2 : R C.M H1 (upd H1 l (.lst [])) := R.new hl
  refine ⟨.list (pyPrs ps), .list [], .lst (SqL.of (by rw [upd_ne (ne_of_none ha hl)]; exact ha)) (dp_prs (hL.go j r2)), .lst (SqL.of upd_same) .nil, shaped_prs ps, shaped_prs [], _, rfl, ?_⟩
  rw [eqv_prs]
  exact q _ _ (r.trans r2) (j.new hl) k
theorem wt_eqNil {p2} (hu : X.A.units + 64 < cLine) (h : W X C G e fun d => ∃ ps, d = .lst (prs ps) ∧ KT ps.isEmpty) : WT X C G (.Compare e [.Eq] [.List [] p2] pos) KT := fun A σ H E Q q => by
  refine toT (pt_cmpR (op_eqD hu) pwE (pe_lst pa_nil) (nomark _)) (h A σ H E _ fun d v H1 r j hh k => ?_)
  obtain ⟨ps, rfl, k⟩ := k
  obtain ⟨a, xs, rfl, _, ha, hL⟩ : ∃ p xs, v = .ref p ∧ ¬ _ ∧ H1 p = some (.lst xs) ∧ HasL _ H1 (prs ps) xs := hh
  refine ⟨Nat.zero_le _, fun l hl => ?_⟩
  have r2 : R C.M H1 (upd H1 l (.lst [])) := R.new hl
  refine ⟨.list (pyPrs ps), .list [], .lst (SqL.of (by rw [upd_ne (ne_of_none ha hl)]; exact ha)) (dp_prs (hL.go j r2)), .lst (SqL.of upd_same) .nil, shaped_prs ps, shaped_prs [], _, rfl, ?_⟩
  rw [eqv_prs]
  exact q _ _ (r.trans r2) (j.new hl) k
/-! ### slices, list and tuple operators -/
theorem cut_tail (xs : List V) : cutV xs (some 1) none = xs.drop 1 := by
  have e : HT.sIx xs.length 0 (some (1 : Int)) = min 1 xs.length := HT.sIx_nat xs.length 0 1
  unfold cutV
  rw [HT.sIx_none, e]
  cases xs <;> simp
theorem HasL.drop {N : Addr → Prop} {H : Hp} {ds : List D} {xs : List V} (n : Nat) (h : HasL N H ds xs) : HasL N H (ds.drop n) (xs.drop n) :=
  HasL.of (by rw [List.length_drop, List.length_drop, HasL.len h]) fun i d x e1 e2 => by
    rw [List.getElem?_drop] at e1 e2
    obtain ⟨y, q, r⟩ := HasL.get h e1
    rw [q] at e2; cases e2; exact r
theorem HasL.take {N : Addr → Prop} {H : Hp} {ds : List D} {xs : List V} (n : Nat) (h : HasL N H ds xs) : HasL N H (ds.take n) (xs.take n) :=
  HasL.of (by rw [List.length_take, List.length_take, HasL.len h]) fun i d x e1 e2 => by
    rw [List.getElem?_take] at e1 e2
    by_cases hi : i < n
    · rw [if_pos hi] at e1 e2
      obtain ⟨y, q, r⟩ := HasL.get h e1
      rw [q] at e2; cases e2; exact r
    · rw [if_neg hi] at e1; cases e1
theorem HasL.rev {N : Addr → Prop} {H : Hp} : ∀ {ds : List D} {xs : List V}, HasL N H ds xs → HasL N H ds.reverse xs.reverse
  | [], xs, h => by
    obtain rfl : xs = [] := h
    exact rfl
  | d :: ds, xs, h => by
    obtain ⟨x, r, e, h1, h2⟩ : ∃ x r, xs = x :: r ∧ Has N H d x ∧ HasL N H ds r := h
    rw [e, List.reverse_cons, List.reverse_cons]
    exact HasL.app (HasL.rev h2) (HasL.one h1)
theorem w_tail {j p1 p2} (h : W X C G e fun d => ∃ ds, d = .lst ds ∧ K (.lst (ds.drop 1))) : W X C G (.Subscript e (.Slice (some (.Constant (.int 1) j p1)) none none p2) pos) K := fun A σ H E Q q => by
  refine toE (pe_slice sl_list pwE (po_some pe_int) po_none) (h A σ H E _ fun d v H1 r j hh k => ?_)
  obtain ⟨ds, rfl, k⟩ := k
  obtain ⟨a, xs, rfl, _, ha, hL⟩ : ∃ p xs, v = .ref p ∧ ¬ _ ∧ H1 p = some (.lst xs) ∧ HasL _ H1 ds xs := hh
  refine ⟨1, rfl, a, xs, rfl, SqL.of ha, fun l hl => ?_⟩
  rw [cut_tail]
  have r2 : R C.M H1 (upd H1 l (.lst (xs.drop 1))) := R.new hl
  exact q (.lst (ds.drop 1)) _ _ (r.trans r2) (j.new hl) ⟨l, _, rfl, (E.go j r).avN hl, upd_same, HasL.drop 1 (hL.go j r2)⟩ k
theorem cut_init (xs : List V) : cutV xs none (some (-1)) = xs.dropLast := by
  unfold cutV
  rw [HT.sIx_none, List.drop_zero, Nat.sub_zero, List.dropLast_eq_take]
  congr 1
  unfold HT.sIx
  cases xs with
  | nil => rfl
  | cons x r =>
    show (if (-1 : Int) < 0 then (-1 + ((r.length + 1 : Nat) : Int)).toNat else _) = r.length
    rw [if_pos (by decide)]
    omega
theorem w_init {j p1 p2 p3} (h : W X C G e fun d => ∃ ds, d = .lst ds ∧ K (.lst ds.dropLast)) : W X C G (.Subscript e (.Slice none (some (.UnaryOp .USub (.Constant (.int 1) j p1) p3)) none p2) pos) K := fun A σ H E Q q => by
  refine toE (pe_slice sl_list pwE po_none (po_some (pe_un un_neg pe_int))) (h A σ H E _ fun d v H1 r j hh k => ?_)
  obtain ⟨ds, rfl, k⟩ := k
  obtain ⟨a, xs, rfl, _, ha, hL⟩ : ∃ p xs, v = .ref p ∧ ¬ _ ∧ H1 p = some (.lst xs) ∧ HasL _ H1 ds xs := hh
  refine ⟨1, rfl, -1, rfl, a, xs, rfl, SqL.of ha, fun l hl => ?_⟩
  rw [cut_init]
  have r2 : R C.M H1 (upd H1 l (.lst xs.dropLast)) := R.new hl
  exact q (.lst ds.dropLast) _ _ (r.trans r2) (j.new hl) ⟨l, _, rfl, (E.go j r).avN hl, upd_same, by
    have q := HasL.take (ds.length - 1) (hL.go j r2)
    rw [← List.dropLast_eq_take, ← HasL.len hL, ← List.dropLast_eq_take] at q
    exact q⟩ k
theorem w_revL {k p1 p2 p3} (h : W X C G e fun d => ∃ ds, d = .lst ds ∧ K (.lst ds.reverse)) : W X C G (.Subscript e (.Slice none none (some (.UnaryOp .USub (.Constant (.int 1) k p1) p2)) p3) pos) K := fun A σ H E Q q => by
  refine toE (pe_revL pwE) (h A σ H E _ fun d v H1 r j hh k => ?_)
  obtain ⟨ds, rfl, k⟩ := k
  obtain ⟨a, xs, rfl, _, ha, hL⟩ : ∃ p xs, v = .ref p ∧ ¬ _ ∧ H1 p = some (.lst xs) ∧ HasL _ H1 ds xs := hh
  refine ⟨a, xs, rfl, SqL.of ha, fun l hl => ?_⟩
  have r2 : R C.M H1 (upd H1 l (.lst xs.reverse)) := R.new hl
  exact q (.lst ds.reverse) _ _ (r.trans r2) (j.new hl) ⟨l, _, rfl, (E.go j r).avN hl, upd_same, HasL.rev (hL.go j r2)⟩ k
theorem w_catL (h : W X C G a fun da => W X C G b fun db => ∃ ds es, da = .lst ds ∧ db = .lst es ∧ ds.length + es.length ≤ 1000 ∧ K (.lst (ds ++ es))) : W X C G (.BinOp a .Add b pos) K :=
  w_two (pe_op op_cat pwE pwE) h fun A H x y da db Q j hx hy k q av => by
    obtain ⟨ds, es, rfl, rfl, hl, k⟩ := k
    obtain ⟨p, xs, rfl, _, hp, hL⟩ : ∃ p xs, x = .ref p ∧ ¬ _ ∧ H p = some (.lst xs) ∧ HasL _ H ds xs := hx
    obtain ⟨p', ys, rfl, _, hp', hL'⟩ : ∃ p xs, y = .ref p ∧ ¬ _ ∧ H p = some (.lst xs) ∧ HasL _ H es xs := hy
    refine ⟨p, p', xs, ys, rfl, rfl, hp, hp', by rw [HasL.len hL, HasL.len hL']; exact Nat.le_of_lt (small1000 hl), fun l hl => ?_⟩
    have r2 : R C.M H (upd H l (.lst (xs ++ ys))) := R.new hl
    exact q (.lst (ds ++ es)) _ _ r2 (j.new hl) ⟨l, _, rfl, av l hl, upd_same, HasL.app (hL.go j r2) (hL'.go j r2)⟩ k
theorem w_catT (h : W X C G a fun da => W X C G b fun db => ∃ ds es, da = .tup ds ∧ db = .tup es ∧ ds.length + es.length ≤ 1000 ∧ K (.tup (ds ++ es))) : W X C G (.BinOp a .Add b pos) K :=
  w_two (pe_op op_catA pwE pwE) h fun A H x y da db Q j hx hy k q av => by
    obtain ⟨ds, es, rfl, rfl, hl, k⟩ := k
    obtain ⟨p, xs, rfl, hp, hL⟩ : ∃ p xs, x = .ref p ∧ H p = some (.tup xs) ∧ HasL _ H ds xs := hx
    obtain ⟨p', ys, rfl, hp', hL'⟩ : ∃ p xs, y = .ref p ∧ H p = some (.tup xs) ∧ HasL _ H es xs := hy
    refine ⟨p, p', xs, ys, rfl, rfl, SqT.of hp, SqT.of hp', by rw [HasL.len hL, HasL.len hL']; exact Nat.le_of_lt (small1000 hl), fun e => ?_, fun _ e => ?_, fun _ _ l hl => ?_⟩
    · subst e
      obtain rfl : ds = [] := List.length_eq_zero_iff.mp (HasL.len hL).symm
      exact q (.tup es) _ _ R.refl j ⟨p', ys, rfl, hp', hL'⟩ k
    · subst e
      obtain rfl : es = [] := List.length_eq_zero_iff.mp (HasL.len hL').symm
      rw [List.append_nil] at k
      exact q (.tup ds) _ _ R.refl j ⟨p, xs, rfl, hp, hL⟩ k
    · have r2 : R C.M H (upd H l (.tup (xs ++ ys))) := R.new hl
      exact q (.tup (ds ++ es)) _ _ r2 (j.new hl) ⟨l, _, rfl, upd_same, HasL.app (hL.go j r2) (hL'.go j r2)⟩ k
end
end FL
end
section
set_option Elab.async false
set_option linter.all false
set_option maxRecDepth 100000
/-! Statements and loops of the layer. -/
namespace FL
open PySem PySem.Spec PyProof.Rows L2

/-! ### the state changes -/
theorem ow_set {G : List SD} {i j : Nat} {s : SD} (h : Ow (G.set i s) j) (n : j ≠ i) : Ow G j := by
  unfold Ow at h ⊢
  rw [List.getElem?_set_ne (Ne.symm n)] at h
  exact h
theorem ow_set_val {G : List SD} {i j : Nat} {s : SD} (hs : (∀ ds, s ≠ .own ds) ∧ ∀ ds, s ≠ .dic ds) (h : Ow (G.set i s) j) : Ow G j ∧ j ≠ i := by
  by_cases e : j = i
  · subst e
    exfalso
    have q : ∀ t, (G.set j s)[j]? = some t → t = s := fun t e => by
      have hl := (List.getElem?_eq_some_iff.mp e).1
      rw [List.getElem?_set_self (by simpa using hl)] at e
      exact (Option.some.inj e).symm
    rcases h with ⟨ds, e⟩ | ⟨ds, e⟩
    · exact hs.1 _ (q _ e).symm
    · exact hs.2 _ (q _ e).symm
  · exact ⟨ow_set h e, e⟩
/-- a slot's fact in another state: the avoided addresses a are avoided, and where it counts the heap is the same -/
theorem SlOk.to {M : Md} {G G' : List SD} {A A' : Nat → Addr} {H H' : Hp} {σ σ' : L2.St} {i : Nat} {s : SD} (h : SlOk M G A H σ i s) (hσ : σ'[i]? = σ[i]?) (hA : (∀ ds, s ≠ .own ds) ∧ (∀ ds, s ≠ .dic ds) ∨ (A' i = A i ∧ H' (A i) = H (A i)))
    (ht : ∀ a xs, H a = some (.tup xs) → H' a = some (.tup xs)) (hl : ∀ a xs, ¬ Av M G A a → H a = some (.lst xs) → ¬ Av M G' A' a ∧ H' a = some (.lst xs)) : SlOk M G' A' H' σ' i s := by
  cases s with
  | no => trivial
  | val d =>
    obtain ⟨v, e, q⟩ := h
    exact ⟨v, hσ.trans e, Has.keep ht hl d v q⟩
  | own ds =>
    obtain ⟨e, xs, e2, q⟩ := h
    rcases hA with z | ⟨a1, a2⟩
    · exact absurd rfl (z.1 ds)
    · exact ⟨by rw [hσ, a1]; exact e, xs, by rw [a1, a2]; exact e2, HasL.keep ht hl ds xs q⟩
  | dic kvs =>
    obtain ⟨e, xs, e2, e3, q⟩ := h
    rcases hA with z | ⟨a1, a2⟩
    · exact absurd rfl (z.2 kvs)
    · exact ⟨by rw [hσ, a1]; exact e, xs, by rw [a1, a2]; exact e2, e3, HasL.keep ht hl _ _ q⟩
section
variable {C : Cn} {H : Hp} {G : List SD} {A : Nat → Addr} {σ : L2.St} {i : Nat}
theorem own_or {s : SD} : ((∀ ds, s ≠ .own ds) ∧ ∀ ds, s ≠ .dic ds) ∨ (∃ ds, s = .own ds) ∨ ∃ ds, s = .dic ds := by
  cases s with
  | no => exact .inl ⟨fun _ z => SD.noConfusion z, fun _ z => SD.noConfusion z⟩
  | val d => exact .inl ⟨fun _ z => SD.noConfusion z, fun _ z => SD.noConfusion z⟩
  | own ds => exact .inr (.inl ⟨ds, rfl⟩)
  | dic ds => exact .inr (.inr ⟨ds, rfl⟩)
/-- a slot that holds plain data (or nothing) is set; nothing owned comes up -/
theorem Est.put (E : Est C G A σ H) {s : SD} {o : Option V} (hs : (∀ ds, s ≠ .own ds) ∧ ∀ ds, s ≠ .dic ds) (h : i < G.length → SlOk C.M (G.set i s) A H (σ.set i o) i s) : Est C (G.set i s) A (σ.set i o) H := by
  have av : ∀ p, Av C.M (G.set i s) A p → Av C.M G A p := fun p z => by
    rcases z with z | ⟨j, z, e⟩
    · exact .inl z
    · exact .inr ⟨j, (ow_set_val hs z).1, e⟩
  refine ⟨E.j0, E.j, E.r, by rw [List.length_set, List.length_set]; exact E.len, fun j k a b e => E.inj j k (ow_set_val hs a).1 (ow_set_val hs b).1 e, fun j a => E.new j (ow_set_val hs a).1, fun j t e => ?_, fun g hg => (E.gh g hg).keep (fun _ _ e => e) fun a xs n e => ⟨fun z => n (av _ z), e⟩⟩
  by_cases q : j = i
  · subst q
    have hl := (List.getElem?_eq_some_iff.mp e).1
    rw [List.length_set] at hl
    rw [List.getElem?_set_self hl] at e
    cases e
    exact h hl
  · rw [List.getElem?_set_ne (Ne.symm q)] at e
    exact (E.sl j t e).to (List.getElem?_set_ne (Ne.symm q)) (by rcases own_or (s := t) with z | z; exact .inl z; exact .inr ⟨rfl, rfl⟩) (fun _ _ e => e) fun a xs n e => ⟨fun z => n (av _ z), e⟩
theorem Est.val (E : Est C G A σ H) {d : D} {v : V} (h : Has (Av C.M G A) H d v) : Est C (G.set i (.val d)) A (σ.set i (some v)) H := by
  have hs : (∀ ds, SD.val d ≠ .own ds) ∧ ∀ ds, SD.val d ≠ .dic ds := ⟨fun _ z => SD.noConfusion z, fun _ z => SD.noConfusion z⟩
  refine E.put hs fun hl => ⟨v, by rw [List.getElem?_set_self (by rw [← E.len]; exact hl)], Has.keep (fun _ _ e => e) (fun a xs n e => ⟨fun z => n ?_, e⟩) d v h⟩
  rcases z with z | ⟨j, z, e⟩
  · exact .inl z
  · exact .inr ⟨j, (ow_set_val hs z).1, e⟩
theorem Est.no (E : Est C G A σ H) {o : Option V} : Est C (G.set i .no) A (σ.set i o) H := E.put ⟨fun _ z => SD.noConfusion z, fun _ z => SD.noConfusion z⟩ fun _ => trivial
/-- an owned list is owned no more -/
theorem Est.freeze {ds : List D} (E : Est C G A σ H) (g : G[i]? = some (.own ds)) : Est C (G.set i (.val (.lst ds))) A σ H := by
  obtain ⟨e, xs, e2, q⟩ := E.sl i _ g
  have hs : (∀ es, SD.val (.lst ds) ≠ .own es) ∧ ∀ es, SD.val (.lst ds) ≠ .dic es := ⟨fun _ z => SD.noConfusion z, fun _ z => SD.noConfusion z⟩
  have hset : σ.set i (some (V.ref (A i))) = σ := List.ext_getElem? fun j => by
    by_cases q : j = i
    · subst q
      rw [List.getElem?_set_self (List.getElem?_eq_some_iff.mp e).1, e]
    · rw [List.getElem?_set_ne (Ne.symm q)]
  have E2 := E.put (i := i) (o := some (.ref (A i))) hs fun hl => ⟨.ref (A i), by rw [hset]; exact e, A i, xs, rfl, fun z => ?_, e2, ?_⟩
  · rw [hset] at E2
    exact E2
  · rcases z with z | ⟨j, z, e3⟩
    · exact E.nb (.inl ⟨ds, g⟩) z
    · obtain ⟨o, n⟩ := ow_set_val hs z
      exact n (E.inj _ _ o (.inl ⟨ds, g⟩) e3.symm)
  · refine HasL.keep (fun _ _ e => e) (fun a ys n e => ⟨fun z => n ?_, e⟩) ds xs q
    rcases z with z | ⟨j, z, e⟩
    · exact .inl z
    · exact .inr ⟨j, (ow_set_val hs z).1, e⟩
theorem Fr.of (E : Est C G A σ H) {p : Addr} (hp : H p = none) : Fr C.H0 p := E.r.fr p (.inl hp)
/-- a new object, owned by a slot -/
theorem Est.make {H' : Hp} (E : Est C G A σ H) {p : Addr} {o : HO} {s : SD} (hp : H p = none) (r : R C.M H H') (j : J C.M H') (hpo : H' p = some o)
    (h : i < G.length → ∀ A', A' i = p → (∀ a xs, ¬ Av C.M G A a → H a = some (.lst xs) → ¬ Av C.M (G.set i s) A' a ∧ H' a = some (.lst xs)) → (∀ a xs, H a = some (.tup xs) → H' a = some (.tup xs)) → SlOk C.M (G.set i s) A' H' (σ.set i (some (.ref p))) i s) :
    ∃ A', Est C (G.set i s) A' (σ.set i (some (.ref p))) H' := by
  obtain ⟨A', hA1, hA2⟩ : ∃ A' : Nat → Addr, A' i = p ∧ ∀ k, k ≠ i → A' k = A k := ⟨fun k => if k = i then p else A k, if_pos rfl, fun k n => if_neg n⟩
  refine ⟨A', ?_⟩
  have old : ∀ j, Ow G j → A j ≠ p := fun j z e => by
    rcases z with ⟨ds, g⟩ | ⟨ds, g⟩
    · obtain ⟨_, xs, e2, _⟩ := E.sl j _ g
      rw [e, hp] at e2; cases e2
    · obtain ⟨_, xs, e2, _⟩ := E.sl j _ g
      rw [e, hp] at e2; cases e2
  have av : ∀ a, Av C.M (G.set i s) A' a → Av C.M G A a ∨ a = p := fun a z => by
    rcases z with z | ⟨j, z, e⟩
    · exact .inl (.inl z)
    · by_cases q : j = i
      · subst q; exact .inr (e.trans hA1)
      · exact .inl (.inr ⟨j, ow_set z q, e.trans (hA2 j q)⟩)
  have hl : ∀ a xs, ¬ Av C.M G A a → H a = some (.lst xs) → ¬ Av C.M (G.set i s) A' a ∧ H' a = some (.lst xs) := fun a xs n e =>
    ⟨fun z => (av a z).elim n fun q => (by rw [q, hp] at e; cases e), r.kp a _ (fun _ z => by cases z) (fun z => n (.inl z)) e⟩
  have ht := E.j.tup r
  refine ⟨E.j0, j, E.r.trans r, by rw [List.length_set, List.length_set]; exact E.len, fun j k a b e => ?_, fun j a => ?_, fun j t e => ?_, fun g hg => (E.gh g hg).keep ht hl⟩
  · by_cases q1 : j = i
    · by_cases q2 : k = i
      · rw [q1, q2]
      · rw [q1, hA1, hA2 k q2] at e
        exact absurd e.symm (old k (ow_set b q2))
    · by_cases q2 : k = i
      · rw [q2, hA1, hA2 j q1] at e
        exact absurd e (old j (ow_set a q1))
      · rw [hA2 j q1, hA2 k q2] at e
        exact E.inj j k (ow_set a q1) (ow_set b q2) e
  · by_cases q1 : j = i
    · rw [q1, hA1]; exact Fr.of E hp
    · rw [hA2 j q1]; exact E.new j (ow_set a q1)
  · by_cases q : j = i
    · subst q
      have hlen := (List.getElem?_eq_some_iff.mp e).1
      rw [List.length_set] at hlen
      rw [List.getElem?_set_self hlen] at e
      cases e
      exact h hlen _ hA1 hl ht
    · rw [List.getElem?_set_ne (Ne.symm q)] at e
      refine (E.sl j t e).to (List.getElem?_set_ne (Ne.symm q)) ?_ ht hl
      rcases own_or (s := t) with z | z
      · exact .inl z
      · refine .inr ⟨hA2 j q, ?_⟩
        rcases z with ⟨ds, z⟩ | ⟨ds, z⟩
        · subst z
          obtain ⟨_, xs, e2, _⟩ := E.sl j _ e
          rw [e2]
          exact r.kp _ _ (fun _ z => by cases z) (E.nb (.inl ⟨ds, e⟩)) e2
        · subst z
          obtain ⟨_, xs, e2, _⟩ := E.sl j _ e
          rw [e2]
          exact r.kp _ _ (fun _ z => by cases z) (E.nb (.inr ⟨ds, e⟩)) e2
theorem Est.mkOwn (E : Est C G A σ H) {p : Addr} {ds : List D} {xs : List V} (hp : H p = none) (hL : HasL (Av C.M G A) H ds xs) : ∃ A', Est C (G.set i (.own ds)) A' (σ.set i (some (.ref p))) (upd H p (.lst xs)) :=
  E.make hp (R.new hp) (E.j.new hp) upd_same fun hl A' e k1 k2 => ⟨by rw [List.getElem?_set_self (by rw [← E.len]; exact hl), e], xs, by rw [e, upd_same], HasL.keep k2 k1 ds xs hL⟩
theorem Est.mkNil {H' : Hp} (E : Est C G A σ H) {p : Addr} (hp : H p = none) (r : R C.M H H') (j : J C.M H') (h' : H' p = some (.lst [])) : ∃ A', Est C (G.set i (.own [])) A' (σ.set i (some (.ref p))) H' :=
  E.make hp r j h' fun hl A' e k1 k2 => ⟨by rw [List.getElem?_set_self (by rw [← E.len]; exact hl), e], [], by rw [e, h'], rfl⟩
theorem Est.mkDic (E : Est C G A σ H) {p : Addr} {kvs : List (Int × D)} {ks : List (Key × V)} (hp : H p = none) (h1 : ks.map (·.1) = kvs.map (fun p => Sum.inl p.1)) (hL : HasL (Av C.M G A) H (kvs.map (·.2)) (ks.map (·.2))) : ∃ A', Est C (G.set i (.dic kvs)) A' (σ.set i (some (.ref p))) (upd H p (.dK ks)) :=
  E.make hp (R.new hp) (E.j.new hp) upd_same fun hl A' e k1 k2 => ⟨by rw [List.getElem?_set_self (by rw [← E.len]; exact hl), e], ks, by rw [e, upd_same], h1, HasL.keep k2 k1 _ _ hL⟩
/-- an owned object is changed -/
theorem Est.change (E : Est C G A σ H) {o u : HO} {s t : SD} (g : G[i]? = some t) (hg : Ow G i) (hu : H (A i) = some u) (hu2 : (∃ xs, u = .lst xs) ∨ ∃ xs, u = .dK xs) (hs : (∃ ds, s = .own ds) ∨ ∃ ds, s = .dic ds)
    (h : (∀ a xs, ¬ Av C.M G A a → H a = some (.lst xs) → ¬ Av C.M (G.set i s) A a ∧ upd H (A i) o a = some (.lst xs)) → (∀ a xs, H a = some (.tup xs) → upd H (A i) o a = some (.tup xs)) → SlOk C.M (G.set i s) A (upd H (A i) o) σ i s) :
    Est C (G.set i s) A σ (upd H (A i) o) := by
  have hlen : i < G.length := (List.getElem?_eq_some_iff.mp g).1
  have ow : ∀ j, Ow (G.set i s) j → Ow G j := fun j z => by
    by_cases q : j = i
    · rw [q]; exact hg
    · exact ow_set z q
  have av : ∀ a, Av C.M (G.set i s) A a → Av C.M G A a := fun a z => by
    rcases z with z | ⟨j, z, e⟩
    · exact .inl z
    · exact .inr ⟨j, ow j z, e⟩
  have hl : ∀ a xs, ¬ Av C.M G A a → H a = some (.lst xs) → ¬ Av C.M (G.set i s) A a ∧ upd H (A i) o a = some (.lst xs) := fun a xs n e =>
    ⟨fun z => n (av a z), by rw [upd_ne (fun z => n (.inr ⟨i, hg, z⟩))]; exact e⟩
  have ht : ∀ a xs, H a = some (.tup xs) → upd H (A i) o a = some (.tup xs) := fun a xs e => by
    rw [upd_ne fun z => ?_]
    · exact e
    · rw [z, hu] at e
      rcases hu2 with ⟨_, q⟩ | ⟨_, q⟩ <;> (rw [q] at e; cases e)
  refine ⟨E.j0, J.mut E.j0 E.j (E.new i hg) hu hu2, E.r.mut (E.new i hg), by rw [List.length_set]; exact E.len, fun j k a b e => E.inj j k (ow j a) (ow k b) e, fun j a => E.new j (ow j a), fun j t' e => ?_, fun g hg => (E.gh g hg).keep ht hl⟩
  by_cases q : j = i
  · subst q
    rw [List.getElem?_set_self hlen] at e
    cases e
    exact h hl ht
  · rw [List.getElem?_set_ne (Ne.symm q)] at e
    refine (E.sl j t' e).to rfl ?_ ht hl
    rcases own_or (s := t') with z | z
    · exact .inl z
    · have oj : Ow G j := by
        rcases z with ⟨ds, z⟩ | ⟨ds, z⟩
        · exact .inl ⟨ds, by rw [e, z]⟩
        · exact .inr ⟨ds, by rw [e, z]⟩
      exact .inr ⟨rfl, upd_ne fun z => q (E.inj j i oj hg z)⟩
theorem Est.setOwn (E : Est C G A σ H) {ds es : List D} {ys : List V} (g : G[i]? = some (.own ds)) (hL : HasL (Av C.M G A) H es ys) : Est C (G.set i (.own es)) A σ (upd H (A i) (.lst ys)) := by
  obtain ⟨e, xs, e2, q⟩ := E.sl i _ g
  exact E.change g (.inl ⟨ds, g⟩) e2 (.inl ⟨xs, rfl⟩) (.inl ⟨es, rfl⟩) fun k1 k2 => ⟨e, ys, upd_same, HasL.keep k2 k1 es ys hL⟩
theorem Est.setDic (E : Est C G A σ H) {kvs kws : List (Int × D)} {ks : List (Key × V)} (g : G[i]? = some (.dic kvs)) (h1 : ks.map (·.1) = kws.map (fun p => Sum.inl p.1)) (hL : HasL (Av C.M G A) H (kws.map (·.2)) (ks.map (·.2))) : Est C (G.set i (.dic kws)) A σ (upd H (A i) (.dK ks)) := by
  obtain ⟨e, xs, e2, e3, q⟩ := E.sl i _ g
  exact E.change g (.inr ⟨kvs, g⟩) e2 (.inr ⟨xs, rfl⟩) (.inr ⟨kws, rfl⟩) fun k1 k2 => ⟨e, ks, upd_same, h1, HasL.keep k2 k1 _ _ hL⟩
end

/-! ### statements -/
def wG (X : Cx) (tg : Expr) : TG := fun v σ H Q => ∀ pins s u, Inv X pins σ H s → RelV v u → wpAny (model X.prog X.w) X.A (assign tg X.env u) (fun _ s' => ∃ σ' H', Inv X pins σ' H' s' ∧ Q σ' H') X.xe s
def wGs (X : Cx) (ts : List Expr) : TGs := fun vs σ H Q => ∀ pins s us, Inv X pins σ H s → Vals vs us → wpAny (model X.prog X.w) X.A (assignInOrder ((assignEach ts X.env).map (·.2)) us) (fun _ s' => ∃ σ' H', Inv X pins σ' H' s' ∧ Q σ' H') X.xe s
theorem pwG {X : Cx} {tg : Expr} : PG X tg (wG X tg) := ⟨fun pins s _ _ _ u _ I r h => h pins s u I r⟩
theorem pwGs {X : Cx} {tg : List Expr} : PGs X tg (wGs X tg) := ⟨fun pins s _ _ _ u _ I r h => h pins s u I r⟩
theorem toG {X : Cx} {tg : Expr} {t : TG} {v : V} {σ : L2.St} {H : Hp} {Q : L2.St → Hp → Prop} (h : PG X tg t) (q : t v σ H Q) : wG X tg v σ H Q := fun pins s u I r => h.run pins s σ H v u Q I r q
theorem toGs {X : Cx} {tg : List Expr} {t : TGs} {v : List V} {σ : L2.St} {H : Hp} {Q : L2.St → Hp → Prop} (h : PGs X tg t) (q : t v σ H Q) : wGs X tg v σ H Q := fun pins s u I r => h.run pins s σ H v u Q I r q
def WG (X : Cx) (C : Cn) (G : List SD) (tg : Expr) (d : D) (KG : List SD → Prop) : Prop := ∀ A σ H v, Est C G A σ H → Has (Av C.M G A) H d v → ∀ Q : L2.St → Hp → Prop, (∀ G' A' σ' H', Est C G' A' σ' H' → KG G' → Q σ' H') → wG X tg v σ H Q
def WGs (X : Cx) (C : Cn) (G : List SD) (ts : List Expr) (ds : List D) (KG : List SD → Prop) : Prop := ∀ A σ H vs, Est C G A σ H → HasL (Av C.M G A) H ds vs → ∀ Q : L2.St → Hp → Prop, (∀ G' A' σ' H', Est C G' A' σ' H' → KG G' → Q σ' H') → wGs X ts vs σ H Q

section
variable {X : Cx} {C : Cn} {G : List SD} {A : Nat → Addr} {σ : L2.St} {H : Hp} {K : D → Prop} {KT : Bool → Prop} {KA : List D → Prop} {KS : KD} {KG : List SD → Prop} {a b c e tg : Expr} {es : List Expr} {st : Stmt} {sts body : List Stmt} {pos p : Pos} {x y : Str}
theorem wss_nil (k : KS.nx G) : WSs X C G [] KS := fun A σ H E D q => toSs pss_nil (q.nx G A σ H E k)
theorem wss_cons (h : WS X C G st { KS with nx := fun G' => WSs X C G' sts KS }) : WSs X C G (st :: sts) KS := fun A σ H E D q => toSs (pss_cons pwS pwSs) (h A σ H E _ ⟨fun G' A' σ' H' E' k => k A' σ' H' E' D q, q.rt, q.bk, q.ct⟩)
theorem wss_one (h : WS X C G st KS) : WSs X C G [st] KS := fun A σ H E D q => toSs (pss_one pwS) (h A σ H E D q)
theorem WSs.mono {KS' : KD} (h : WSs X C G sts KS) (k1 : ∀ G, KS.nx G → KS'.nx G) (k2 : ∀ d, KS.rt d → KS'.rt d) (k3 : ∀ G, KS.bk G → KS'.bk G) (k4 : ∀ G, KS.ct G → KS'.ct G) : WSs X C G sts KS' := fun A σ H E D q =>
  h A σ H E D ⟨fun G A σ H E k => q.nx G A σ H E (k1 G k), fun d v H j r h k => q.rt d v H j r h (k2 d k), fun G A σ H E k => q.bk G A σ H E (k3 G k), fun G A σ H E k => q.ct G A σ H E (k4 G k)⟩
/-- a list owned no more, ahead of the rest -/
theorem wss_freeze (i : Nat) {ds : List D} (g : G[i]? = some (.own ds)) (h : WSs X C (G.set i (.val (.lst ds))) sts KS) : WSs X C G sts KS := fun A σ H E D q => h A σ H (E.freeze g) D q
theorem ws_set (i : Nat) {p2 : Pos} (h : W X C G e fun d => KS.nx (G.set i (.val d))) (hN : X.N.Nodup) (hi : X.N[i]? = some x := by rfl) (hx : Loc X.env.scope x := by first | exact Or.inl rfl | exact Or.inr rfl) (hs : swapsWith e (some (.Name x p2)) pos.line X.env = pure false := by rfl) (hf : X.fn x = true ∨ X.env.scope.names.lookup x = some .local := by first | exact .inl rfl | exact .inr rfl) :
    WS X C G (.Assign [.Name x p2] e pos) KS := fun A σ H E D q => toS (ps_set hN hi hx pwE hs hf) (h A σ H E _ fun d v H2 r j hh k => q.nx _ A _ _ ((E.go j r).val hh) k)
/-- name = [..], the list owned -/
theorem ws_setLst (i : Nat) {p2 p3 : Pos} (h : WA X C G es fun ds => ds.length ≤ 1000 ∧ KS.nx (G.set i (.own ds))) (hN : X.N.Nodup) (hi : X.N[i]? = some x := by rfl) (hx : Loc X.env.scope x := by first | exact Or.inl rfl | exact Or.inr rfl) (hs : swapsWith (.List es p3) (some (.Name x p2)) pos.line X.env = pure false := by rfl) (hf : X.fn x = true ∨ X.env.scope.names.lookup x = some .local := by first | exact .inl rfl | exact .inr rfl) :
    WS X C G (.Assign [.Name x p2] (.List es p3) pos) KS := fun A σ H E D q => toS (ps_set hN hi hx (pe_lst pwA) hs hf) (h A σ H E _ fun ds vs H2 r j hh k => by
  have hl := HasL.len hh
  refine ⟨Nat.le_of_lt (small1000 (by omega)), fun p hp => ?_⟩
  obtain ⟨A', E'⟩ := (E.go j r).mkOwn (i := i) hp hh
  exact q.nx _ A' _ _ E' k.2)
/-! targets -/
theorem wg_name (i : Nat) {d : D} (k : KG (G.set i (.val d))) (hN : X.N.Nodup) (hi : X.N[i]? = some x := by rfl) (hx : Loc X.env.scope x := by first | exact Or.inl rfl | exact Or.inr rfl) (hf : X.fn x = true ∨ X.env.scope.names.lookup x = some .local := by first | exact .inl rfl | exact .inr rfl) : WG X C G (.Name x p) d KG :=
  fun A σ H v E hh Q q => toG (pg_name hN hi hx hf) (q _ A _ _ (E.val hh) k)
theorem wgs_nil (k : KG G) : WGs X C G [] [] KG := fun A σ H vs E hh Q q => toGs pgs_nil ⟨hh, q _ A _ _ E k⟩
theorem Est.addG (E : Est C G A σ H) {g : Gh} (h : GhOk (Av C.M G A) H g) : Est (C.gh g) G A σ H := ⟨E.j0, E.j, E.r, E.len, E.inj, E.new, E.sl, fun g' hg => by
  rcases List.mem_cons.mp hg with e | hg
  · subst e; exact h
  · exact E.gh g' hg⟩
theorem Est.dropG {g : Gh} (E : Est (C.gh g) G A σ H) : Est C G A σ H := ⟨E.j0, E.j, E.r, E.len, E.inj, E.new, E.sl, fun g' hg => E.gh g' (List.mem_cons_of_mem _ hg)⟩
theorem Est.gh1 {g : Gh} (E : Est (C.gh g) G A σ H) : GhOk (Av C.M G A) H g := E.gh g List.mem_cons_self
theorem EndsOk.addG {g : Gh} {D : Ends} (q : EndsOk C KS D) : EndsOk (C.gh g) KS D := ⟨fun G A σ H E k => q.nx G A σ H E.dropG k, q.rt, fun G A σ H E k => q.bk G A σ H E.dropG k, fun G A σ H E k => q.ct G A σ H E.dropG k⟩
theorem wgs_cons {d : D} {ds : List D} (h : ∀ r, WG X (C.gh (.s ds r)) G tg d fun G' => WGs X C G' es ds KG)
    (hs : (assignEach (tg :: es) X.env).map (·.2) = assign tg X.env :: (assignEach es X.env).map (·.2) := by rfl) : WGs X C G (tg :: es) (d :: ds) KG := fun A σ H vs E hh Q q => by
  obtain ⟨x, r, e, h1, h2⟩ : ∃ x r, vs = x :: r ∧ Has _ H d x ∧ HasL _ H ds r := hh
  refine toGs (pgs_cons pwG pwGs hs) ⟨x, r, e, ?_⟩
  refine h r A σ H x (E.addG h2) h1 _ fun G' A' σ' H' E' k => ?_
  exact k A' σ' H' r E'.dropG E'.gh1 Q q
theorem wg_tup {ds : List D} {k : Nat} (h : WGs X C G es ds KG) (hl : ds.length = (assignEach es X.env).length) (hc : X.calm = true := by rfl) (hst : (assignEach es X.env).findIdx? (·.1) = none := by rfl) : WG X C G (.Tuple es k pos) (.tup ds) KG := fun A σ H v E hh Q q => by
  obtain ⟨a, xs, e, ha, hL⟩ : ∃ a xs, v = .ref a ∧ H a = some (.tup xs) ∧ HasL _ H ds xs := hh
  refine toG (pg_tup hc pwGs rfl hst) ⟨a, xs, e, SqT.of ha, by rw [HasL.len hL, hl], ?_⟩
  exact h A σ H xs E hL Q q
theorem ws_asg (h : W X C G e fun d => WG X C G tg d KS.nx) (hs : swapsWithSole [tg] e pos.line X.env = pure false := by rfl) (hw : swappedStores [tg] e X.env = pure none := by rfl)
    (h1 : (assignEach [tg] X.env).map (·.2) = [assign tg X.env] := by rfl) : WS X C G (.Assign [tg] e pos) KS := fun A σ H E D q =>
  toS (ps_asg pwE pwG hs hw h1) (h A σ H E _ fun d v H2 r j hh k => k A σ H2 v (E.go j r) hh _ fun G' A' σ' H' E' k' => q.nx G' A' σ' H' E' k')
/-! a, b = e1, e2 -/
theorem ws_par2 (i j : Nat) {px py pt : Pos} {kt k2 : Nat} {pt2 : Pos} (h : W X C G a fun da => W X C G b fun db => KS.nx ((G.set i (.val da)).set j (.val db))) (hN : X.N.Nodup) (hi : X.N[i]? = some x := by rfl) (hj : X.N[j]? = some y := by rfl) (hij : i ≠ j := by decide)
    (hx : X.env.scope.names.lookup x = some .local := by rfl) (hy : X.env.scope.names.lookup y = some .local := by rfl) (hc : X.calm = true := by rfl) (hea : starEach [a, b] X.env = (false, eval a X.env) :: starEach [b] X.env := by rfl) (heb : starEach [b] X.env = (false, eval b X.env) :: starEach [] X.env := by rfl)
    (hw : swappedStores [.Tuple [.Name x px, .Name y py] kt pt] (.Tuple [a, b] k2 pt2) X.env = pure (some [x, y]) := by rfl)
    (hsw : swapsWithSole [.Tuple [.Name x px, .Name y py] kt pt] (.Tuple [a, b] k2 pt2) pos.line X.env = pure false := by rfl) :
    WS X C G (.Assign [.Tuple [.Name x px, .Name y py] kt pt] (.Tuple [a, b] k2 pt2) pos) KS := fun A σ H E D q => by
  refine toS (ps_par hc hN hi hj hij hx hy (pa_cons pwE (pa_cons pwE pa_nil heb) hea) hw hsw) ?_
  refine h A σ H E _ fun da v H1 r1 j1 h1 k1 => ?_
  refine k1 A σ H1 (E.go j1 r1) _ fun db w H2 r2 j2 h2 k2 => ?_
  refine ⟨v, w, rfl, ?_⟩
  have E2 := (E.go j1 r1).go j2 r2
  have E3 := E2.val (i := i) (h1.go j1 r2)
  refine q.nx _ A _ _ (E3.val (i := j) (Has.keep (fun _ _ e => e) (fun a xs n e => ⟨fun z => n ?_, e⟩) db w h2)) k2
  rcases z with z | ⟨l, z, e⟩
  · exact .inl z
  · exact .inr ⟨l, (ow_set_val ⟨fun _ z => SD.noConfusion z, fun _ z => SD.noConfusion z⟩ z).1, e⟩
/-- a, b = e1, []: the list owned -/
theorem ws_par2O (i j : Nat) {px py pt p3 : Pos} {kt k2 : Nat} {pt2 : Pos} (h : W X C G a fun da => KS.nx ((G.set i (.val da)).set j (.own []))) (hN : X.N.Nodup) (hi : X.N[i]? = some x := by rfl) (hj : X.N[j]? = some y := by rfl) (hij : i ≠ j := by decide)
    (hx : X.env.scope.names.lookup x = some .local := by rfl) (hy : X.env.scope.names.lookup y = some .local := by rfl) (hc : X.calm = true := by rfl) (hea : starEach [a, .List [] p3] X.env = (false, eval a X.env) :: starEach [.List [] p3] X.env := by rfl) (heb : starEach [.List [] p3] X.env = (false, eval (.List [] p3) X.env) :: starEach [] X.env := by rfl)
    (hw : swappedStores [.Tuple [.Name x px, .Name y py] kt pt] (.Tuple [a, .List [] p3] k2 pt2) X.env = pure (some [x, y]) := by rfl)
    (hs : swapsWithSole [.Tuple [.Name x px, .Name y py] kt pt] (.Tuple [a, .List [] p3] k2 pt2) pos.line X.env = pure false := by rfl) :
    WS X C G (.Assign [.Tuple [.Name x px, .Name y py] kt pt] (.Tuple [a, .List [] p3] k2 pt2) pos) KS := fun A σ H E D q => by
  refine toS (ps_par hc hN hi hj hij hx hy (pa_cons pwE (pa_cons (pe_lst pa_nil) pa_nil heb) hea) hw hs) ?_
  refine h A σ H E _ fun da v H1 r1 j1 h1 k1 => ?_
  refine ⟨Nat.zero_le _, fun p hp => ⟨v, .ref p, rfl, ?_⟩⟩
  obtain ⟨A', E'⟩ := ((E.go j1 r1).val (i := i) h1).mkOwn (i := j) (ds := []) (xs := []) hp rfl
  exact q.nx _ A' _ _ E' k1
/-- a, b = [], e2 with plain data behind -/
theorem ws_par2P (i j : Nat) {px py pt p3 : Pos} {kt k2 : Nat} {pt2 : Pos} (h : W X C G b fun db => imm db = true ∧ KS.nx ((G.set i (.own [])).set j (.val db))) (hN : X.N.Nodup) (hi : X.N[i]? = some x := by rfl) (hj : X.N[j]? = some y := by rfl) (hij : i ≠ j := by decide)
    (hx : X.env.scope.names.lookup x = some .local := by rfl) (hy : X.env.scope.names.lookup y = some .local := by rfl) (hc : X.calm = true := by rfl) (hea : starEach [.List [] p3, b] X.env = (false, eval (.List [] p3) X.env) :: starEach [b] X.env := by rfl) (heb : starEach [b] X.env = (false, eval b X.env) :: starEach [] X.env := by rfl)
    (hw : swappedStores [.Tuple [.Name x px, .Name y py] kt pt] (.Tuple [.List [] p3, b] k2 pt2) X.env = pure (some [x, y]) := by rfl)
    (hs : swapsWithSole [.Tuple [.Name x px, .Name y py] kt pt] (.Tuple [.List [] p3, b] k2 pt2) pos.line X.env = pure false := by rfl) :
    WS X C G (.Assign [.Tuple [.Name x px, .Name y py] kt pt] (.Tuple [.List [] p3, b] k2 pt2) pos) KS := fun A σ H E D q => by
  refine toS (ps_par hc hN hi hj hij hx hy (pa_cons (pe_lst pa_nil) (pa_cons pwE pa_nil heb) hea) hw hs) ?_
  refine ⟨Nat.zero_le _, fun p hp => ?_⟩
  have r0 : R C.M H (upd H p (.lst [])) := R.new hp
  refine h A σ (upd H p (.lst [])) (E.go (E.j.new hp) r0) _ fun db w H2 r2 j2 h2 k2 => ?_
  refine ⟨.ref p, w, rfl, ?_⟩
  have hpb : ¬ IsB C.M p := fun z => by
    obtain ⟨xs, q⟩ := E.j.bagL z
    rw [hp] at q; cases q
  obtain ⟨A', E'⟩ := E.mkNil (i := i) hp (r0.trans r2) j2 (r2.kp p _ (fun _ z => by cases z) hpb upd_same)
  exact q.nx _ A' _ _ (E'.val (i := j) (Has.immK (fun _ _ e => e) db w k2.1 h2)) k2.2
theorem ws_ret (h : W X C G e KS.rt) : WS X C G (.Return (some e) pos) KS := fun A σ H E D q => toS (ps_ret pwE) (h A σ H E _ fun d v H2 r j hh k => q.rt d v H2 j (E.r.trans r) (toM hh) k)
theorem ws_if (h : WT X C G c fun z => (z = true → WSs X C G sts KS) ∧ (z = false → WSs X C G body KS)) : WS X C G (.If c sts body pos) KS := fun A σ H E D q => toS (ps_if pwT pwSs pwSs) (h A σ H E _ fun z H2 r j k => by
  cases z with
  | true => exact iteT (k.1 rfl A σ H2 (E.go j r) D q)
  | false => exact iteF (k.2 rfl A σ H2 (E.go j r) D q))
theorem ws_while (I : Nat → List SD → Prop) (m : Nat) (h0 : I m G) (hs : ∀ m G', I m G' → WT X C G' c fun z => (z = true → WSs X C G' body { KS with nx := fun G2 => ∃ m', m' < m ∧ I m' G2, ct := fun G2 => ∃ m', m' < m ∧ I m' G2, bk := KS.nx }) ∧ (z = false → KS.nx G'))
    (hp : PassesOwn (model X.prog X.w) X.A X.env X.xe := by exact PassesOwn.never) : WS X C G (.While c body [] pos) KS := fun A σ H E D q => by
  refine toS (ps_while hp pwT pwSs) ⟨fun m σ H => ∃ G A, Est C G A σ H ∧ I m G, ⟨m, G, A, E, h0⟩, fun m σ H ⟨G, A, E, i⟩ => ?_⟩
  refine hs m G i A σ H E _ fun z H2 r j k => ?_
  cases z with
  | true =>
    refine iteT ⟨fun σ' H' => ∃ G A, Est C G A σ' H' ∧ ∃ m', m' < m ∧ I m' G, fun σ' H' ⟨G, A, E, m', l, i⟩ => ⟨m', l, G, A, E, i⟩, ?_⟩
    exact k.1 rfl A σ H2 (E.go j r) _ ⟨fun G' A' σ' H' E' k => ⟨G', A', E', k⟩, q.rt, q.nx, fun G' A' σ' H' E' k => ⟨G', A', E', k⟩⟩
  | false => exact iteF (q.nx G A σ H2 (E.go j r) (k.2 rfl))
end
end FL
end
section
set_option Elab.async false
set_option linter.all false
set_option maxRecDepth 100000
/-! What is walked, for, comprehensions, methods of owned lists, owned dicts. -/
namespace FL
open PySem PySem.Spec PyProof.Rows L2

def Cn.ghs (C : Cn) (Zs : List Gh) : Cn := { C with Z := Zs ++ C.Z }
section
variable {C : Cn} {H : Hp} {G : List SD} {A : Nat → Addr} {σ : L2.St} {Zs : List Gh} {KS : KD}
theorem Est.addGs (E : Est C G A σ H) (h : ∀ g ∈ Zs, GhOk (Av C.M G A) H g) : Est (C.ghs Zs) G A σ H := ⟨E.j0, E.j, E.r, E.len, E.inj, E.new, E.sl, fun g' hg => (List.mem_append.mp hg).elim (h g') (E.gh g')⟩
theorem Est.dropGs (E : Est (C.ghs Zs) G A σ H) : Est C G A σ H := ⟨E.j0, E.j, E.r, E.len, E.inj, E.new, E.sl, fun g' hg => E.gh g' (List.mem_append_right _ hg)⟩
theorem Est.ghZ (E : Est (C.ghs Zs) G A σ H) {g : Gh} (h : g ∈ Zs) : GhOk (Av C.M G A) H g := E.gh g (List.mem_append_left _ h)
end
/-- what is walked, by data: n turns, f i at turn i -/
def Walks (C : Cn) (Zs : List Gh) (I : It) (n : Nat) (f : Nat → D) : Prop := ∀ G A σ H i, Est (C.ghs Zs) G A σ H →
  (i < n → I.go i H ∧ ∀ x H', I.yld i H x H' → R C.M H H' ∧ J C.M H' ∧ Has (Av C.M G A) H' (f i) x) ∧ (n = i → I.stop i H)
def wI (X : Cx) (tg iter : Expr) : TI := fun σ H Rr => ∀ pins s, Inv X pins σ H s → wpAny (model X.prog X.w) X.A (eval iter X.env) (fun v s1 => wpAny (model X.prog X.w) X.A (pyIter v) (PIE X pins σ tg Rr) X.xe s1) X.xe s
theorem pwI {X : Cx} {tg iter : Expr} : PI X tg iter (wI X tg iter) := ⟨fun pins s _ _ _ I h => h pins s I⟩
theorem toI {X : Cx} {tg iter : Expr} {t : TI} {σ : L2.St} {H : Hp} {Rr : It → Hp → Prop} (h : PI X tg iter t) (q : t σ H Rr) : wI X tg iter σ H Rr := fun pins s I => h.run pins s σ H Rr I q
def WI (X : Cx) (C : Cn) (G : List SD) (tg iter : Expr) (KI : List Gh → Nat → (Nat → D) → Prop) : Prop := ∀ A σ H, Est C G A σ H → ∀ Rr : It → Hp → Prop,
  (∀ I n f Zs H2, R C.M H H2 → J C.M H2 → (∀ g ∈ Zs, GhOk (Av C.M G A) H2 g) → Walks C Zs I n f → KI Zs n f → Rr I H2) → wI X tg iter σ H Rr

section
variable {X : Cx} {C : Cn} {G : List SD} {K : D → Prop} {KI : List Gh → Nat → (Nat → D) → Prop} {KS : KD} {a b c e tg elt : Expr} {es : List Expr} {st : Stmt} {sts body : List Stmt} {pos p : Pos} {x y : Str}
def nthD (ds : List D) (i : Nat) : D := ds.getD i .non
theorem nthD_some {ds : List D} {i : Nat} (h : i < ds.length) : ds[i]? = some (nthD ds i) := by
  unfold nthD
  rw [List.getD_eq_getElem?_getD, List.getElem?_eq_getElem h]
  rfl
theorem wi_list (h : W X C G e fun d => ∃ ds, d = .lst ds ∧ ∀ Zs, KI Zs ds.length (nthD ds)) : WI X C G tg e KI := fun A σ H E Rr q => by
  refine toI (pi_list pwE) (h A σ H E _ fun d v H2 r j hh k => ?_)
  obtain ⟨ds, rfl, k⟩ := k
  obtain ⟨a, xs, rfl, na, ha, hL⟩ : ∃ p xs, v = .ref p ∧ ¬ _ ∧ H2 p = some (.lst xs) ∧ HasL _ H2 ds xs := hh
  refine ⟨a, rfl, ⟨xs, SqL.of ha⟩, q _ _ _ [.l a ds xs] H2 r j (fun g hg => ?_) (fun G' A' σ' H' i E' => ?_) (k _)⟩
  · obtain rfl : g = .l a ds xs := by simpa using hg
    exact ⟨na, ha, hL⟩
  · obtain ⟨_, ha', hL'⟩ : GhOk _ H' (.l a ds xs) := E'.ghZ (by simp)
    have hl := HasL.len hL'
    refine ⟨fun hi => ⟨⟨xs, xs[i], SqL.of ha', List.getElem?_eq_getElem (by omega)⟩, fun x H3 y => ?_⟩, fun hi => ⟨xs, SqL.of ha', by omega⟩⟩
    obtain ⟨rfl, y⟩ := y
    obtain ⟨z, e1, hz⟩ := HasL.get hL' (nthD_some hi)
    rw [y xs (SqL.of ha')] at e1
    cases e1
    exact ⟨R.refl, E'.j, hz⟩
theorem wi_tup (h : W X C G e fun d => ∃ ds, d = .tup ds ∧ ∀ Zs, KI Zs ds.length (nthD ds)) : WI X C G tg e KI := fun A σ H E Rr q => by
  refine toI (pi_tup pwE) (h A σ H E _ fun d v H2 r j hh k => ?_)
  obtain ⟨ds, rfl, k⟩ := k
  obtain ⟨a, xs, rfl, ha, hL⟩ : ∃ p xs, v = .ref p ∧ H2 p = some (.tup xs) ∧ HasL _ H2 ds xs := hh
  refine ⟨a, rfl, ⟨xs, SqT.of ha⟩, q _ _ _ [.t a ds xs] H2 r j (fun g hg => ?_) (fun G' A' σ' H' i E' => ?_) (k _)⟩
  · obtain rfl : g = .t a ds xs := by simpa using hg
    exact ⟨ha, hL⟩
  · obtain ⟨ha', hL'⟩ : GhOk _ H' (.t a ds xs) := E'.ghZ (by simp)
    have hl := HasL.len hL'
    refine ⟨fun hi => ⟨⟨xs, xs[i], SqT.of ha', List.getElem?_eq_getElem (by omega)⟩, fun x H3 y => ?_⟩, fun hi => ⟨xs, SqT.of ha', by omega⟩⟩
    obtain ⟨rfl, y⟩ := y
    obtain ⟨z, e1, hz⟩ := HasL.get hL' (nthD_some hi)
    rw [y xs (SqT.of ha')] at e1
    cases e1
    exact ⟨R.refl, E'.j, hz⟩
theorem wi_range1 (hm : X.mg "range" = none) (h : W X C G a fun d => ∃ j : Int, d = .int j ∧ -1000000 ≤ j ∧ j ≤ 1000000 ∧ ∀ Zs, KI Zs j.toNat (fun i => .int i)) (hg : Gl X "range" := by rfl) (hs : starEach [a] X.env = [(false, eval a X.env)] := by rfl) (hs' : starEach [a] X.env = (false, eval a X.env) :: starEach [] X.env := by rfl) : WI X C G tg (.Call (.Name "range" p) [a] [] pos) KI := fun A σ H E Rr q => by
  refine toI (pi_range1 hg hm (pa_cons pwE pa_nil hs') hs) (h A σ H E _ fun d v H2 r j hh k => ?_)
  obtain ⟨n, rfl, h1, h2, k⟩ := k
  refine ⟨n, by rw [show v = .int n from hh], by omega, by omega, q _ _ _ [] H2 r j (fun g hg => absurd hg (by simp)) (fun G' A' σ' H' i E' => ⟨fun hi => ⟨hi, fun x H3 y => ?_⟩, fun hi => Nat.le_of_eq hi⟩) (k _)⟩
  obtain ⟨rfl, rfl⟩ := y
  rw [Int.zero_add]
  exact ⟨R.refl, E'.j, hasI⟩
theorem wi_range2 (hm : X.mg "range" = none) (h : W X C G a fun da => W X C G b fun db => ∃ i j : Int, da = .int i ∧ db = .int j ∧ -1000000 ≤ i ∧ i ≤ 1000000 ∧ -1000000 ≤ j ∧ j ≤ 1000000 ∧ ∀ Zs, KI Zs (j - i).toNat (fun k => .int (i + k))) (hg : Gl X "range" := by rfl) (hs : starEach [a, b] X.env = [(false, eval a X.env), (false, eval b X.env)] := by rfl) (hs2 : starEach [b] X.env = [(false, eval b X.env)] := by rfl)
    (hs' : starEach [a, b] X.env = (false, eval a X.env) :: starEach [b] X.env := by rfl) (hs2' : starEach [b] X.env = (false, eval b X.env) :: starEach [] X.env := by rfl) : WI X C G tg (.Call (.Name "range" p) [a, b] [] pos) KI := fun A σ H E Rr q => by
  refine toI (pi_range2 hg hm (pa_cons pwE (pa_cons pwE pa_nil hs2') hs') hs hs2) (h A σ H E _ fun d v H1 r1 j1 hh k1 => ?_)
  refine k1 A σ H1 (E.go j1 r1) _ fun d2 v2 H2 r2 j2 hh2 k => ?_
  obtain ⟨i, j, rfl, rfl, h1, h2, h3, h4, k⟩ := k
  refine ⟨i, j, by rw [show v = .int i from hh, show v2 = .int j from hh2], ⟨by omega, by omega, by omega, by omega⟩, q _ _ _ [] H2 (r1.trans r2) j2 (fun g hg => absurd hg (by simp)) (fun G' A' σ' H' m E' => ⟨fun hi => ⟨hi, fun x H3 y => ?_⟩, fun hi => Nat.le_of_eq hi⟩) (k _)⟩
  obtain ⟨rfl, rfl⟩ := y
  exact ⟨R.refl, E'.j, hasI⟩
theorem wi_enum {elts : List Expr} {kk : Nat} {tpos : Pos} (hm : X.mg "enumerate" = none) (h : W X C G e fun d => ∃ ds, d = .lst ds ∧ ∀ Zs, KI Zs ds.length (fun i => .tup [.int i, nthD ds i])) (hg : Gl X "enumerate" := by rfl) (hs : starEach [e] X.env = [(false, eval e X.env)] := by rfl) (hs' : starEach [e] X.env = (false, eval e X.env) :: starEach [] X.env := by rfl) : WI X C G (.Tuple elts kk tpos) (.Call (.Name "enumerate" p) [e] [] pos) KI := fun A σ H E Rr q => by
  refine toI (pi_enum hg hm (pa_cons pwE pa_nil hs') hs) (h A σ H E _ fun d v H2 r j hh k => ?_)
  obtain ⟨ds, rfl, k⟩ := k
  obtain ⟨a, xs, rfl, na, ha, hL⟩ : ∃ p xs, v = .ref p ∧ ¬ _ ∧ H2 p = some (.lst xs) ∧ HasL _ H2 ds xs := hh
  refine ⟨a, xs, rfl, SqL.of ha, q _ _ _ [.l a ds xs] H2 r j (fun g hg => ?_) (fun G' A' σ' H' i E' => ?_) (k _)⟩
  · obtain rfl : g = .l a ds xs := by simpa using hg
    exact ⟨na, ha, hL⟩
  · obtain ⟨_, ha', hL'⟩ : GhOk _ H' (.l a ds xs) := E'.ghZ (by simp)
    have hl := HasL.len hL'
    refine ⟨fun hi => ⟨⟨xs, xs[i], SqL.of ha', List.getElem?_eq_getElem (by omega)⟩, fun x H3 y => ?_⟩, fun hi => ⟨xs, SqL.of ha', by omega⟩⟩
    obtain ⟨T, z, rfl, hT, rfl, y⟩ := y
    obtain ⟨w, e1, hz⟩ := HasL.get hL' (nthD_some hi)
    rw [y xs (SqL.of ha')] at e1
    cases e1
    have r2 : R C.M H' (upd H' T (.tup [.int (i : Nat), z])) := R.new hT
    exact ⟨r2, E'.j.new hT, T, _, rfl, upd_same, .int (i : Nat), _, rfl, hasI, z, _, rfl, hz.go (C := C.ghs _) E'.j r2, rfl⟩
/-! ### for -/
theorem ws_for (h : WI X C G tg e fun Zs n f => ∃ I : Nat → List SD → Prop, I 0 G ∧ (∀ i G', i < n → I i G' → WG X (C.ghs Zs) G' tg (f i) fun G2 => WSs X (C.ghs Zs) G2 body { KS with nx := I (i + 1), ct := I (i + 1), bk := KS.nx }) ∧ ∀ G', I n G' → KS.nx G')
    (hp : PassesOwn (model X.prog X.w) X.A X.env X.xe := by exact PassesOwn.never) (hc : X.calm = true := by rfl) (hs : ∀ x, foldedSetIterable e X.env x = pure x := by intro _; rfl) : WS X C G (.For tg e body [] pos) KS := fun A σ H E D q => by
  refine toS (ps_for hp hc pwI pwG pwSs hs) (h A σ H E _ fun It n f Zs H2 r j hz wk k => ?_)
  obtain ⟨I, i0, turn, done⟩ := k
  refine ⟨fun i m σ H => i + m = n ∧ ∃ G A, Est (C.ghs Zs) G A σ H ∧ I i G, ⟨n, by omega, G, A, (E.go j r).addGs hz, i0⟩, fun i m σ H ⟨em, G', A', E', i'⟩ => ?_⟩
  have w := wk G' A' σ H i E'
  by_cases hi : i < n
  · obtain ⟨go, yl⟩ := w.1 hi
    refine .inr ⟨go, fun σ2 H3 => ∃ G A, Est (C.ghs Zs) G A σ2 H3 ∧ I (i + 1) G, fun σ2 H3 h3 => ⟨m - 1, by omega, by omega, h3⟩, fun x H3 y => ?_⟩
    obtain ⟨r3, j3, h3⟩ := yl x H3 y
    refine turn i G' hi i' A' σ H3 x (E'.go j3 r3) h3 _ fun G4 A4 σ4 H4 E4 k4 => ?_
    exact k4 A4 σ4 H4 E4 _ ⟨fun G5 A5 σ5 H5 E5 k5 => ⟨G5, A5, E5, k5⟩, q.rt, fun G5 A5 σ5 H5 E5 k5 => q.nx G5 A5 σ5 H5 E5.dropGs k5, fun G5 A5 σ5 H5 E5 k5 => ⟨G5, A5, E5, k5⟩⟩
  · obtain rfl : i = n := by omega
    exact .inl ⟨w.2 rfl, q.nx G' A' σ H E'.dropGs (done G' i')⟩
/-! ### comprehensions -/
def wipeG (G : List SD) : List Nat → List SD
  | [] => G
  | v :: vs => (wipeG G vs).set v .no
theorem Est.wipe {A : Nat → Addr} {σ : L2.St} {H : Hp} (E : Est C G A σ H) : ∀ vs, Est C (wipeG G vs) A (wipe σ vs) H
  | [] => E
  | v :: vs => (Est.wipe E vs).no
/-- the element, in any block -/
def WB (X : Cx) (scope : Scope) (C : Cn) (G : List SD) (e : Expr) (K : D → Prop) : Prop := ∀ s H c cl fp, W (X.blk s H scope (compEnvC scope cl c X.env) fp) C G e K
theorem lc_core2 {σ : L2.St} {H : Hp} {A : Nat → Addr} {scope : Scope} {vs : List Nat} {g : TG} {Q : VK} (E : Est C G A σ H) (hq : ∀ d v H2, R C.M H H2 → J C.M H2 → Has (Av C.M G A) H2 d v → K d → Q v H2)
    (h : WI X C G tg e fun Zs n f => ∃ P : Nat → D → Prop, n ≤ 100000 ∧ (∀ i d, P i d → imm d = true) ∧
      (∀ i, i < n → ∀ A σ H v (Q : L2.St → Hp → Prop), Est (C.ghs Zs) (wipeG G vs) A (wipe σ vs) H → Has (Av C.M (wipeG G vs) A) H (f i) v → (∀ G2 σ2, Est (C.ghs Zs) G2 A σ2 H → wipe σ2 vs = wipe σ vs → WB X scope (C.ghs Zs) G2 elt (P i) → Q σ2 H) → g v (wipe σ vs) H Q) ∧
      ∀ ds, ds.length = n → (∀ i d, ds[i]? = some d → P i d) → K (.lst ds)) :
    tLc (wI X tg e) g tYes (fun σ H Q => ∀ s0 H0 c cl fp, wE (X.blk s0 H0 scope (compEnvC scope cl c X.env) fp) elt σ H Q) vs σ H Q := by
  refine h A σ H E _ fun It n f Zs H2 r j hz wk k => ?_
  obtain ⟨P, hn, him, turn, done⟩ := k
  intro L hL
  have E2 := (E.go j r).addGs hz
  have nAv : ¬ Av C.M G A L := (E.go j r).avN hL
  have frL : Fr H2 L := .inl hL
  refine ⟨fun i m H3 => i + m = n ∧ R C.M H2 H3 ∧ J C.M H3 ∧ ∃ ds acc, H3 L = some (.lst acc) ∧ HasL (Av C.M G A) H3 ds acc ∧ ds.length = i ∧ ∀ i d, ds[i]? = some d → P i d,
    ⟨n, by omega, R.new hL, j.new hL, [], [], upd_same, rfl, rfl, fun i d e => by simp at e⟩, fun i m H3 ⟨em, r3, j3, ds, acc, e1, hd, hlen, hp⟩ => ?_⟩
  have E3 := E2.go j3 r3
  have w := wk G A σ H3 i E3
  by_cases hi : i < n
  · obtain ⟨go, yl⟩ := w.1 hi
    refine .inr ⟨go, fun H5 => R C.M H2 H5 ∧ J C.M H5 ∧ ∃ ds acc, H5 L = some (.lst acc) ∧ HasL (Av C.M G A) H5 ds acc ∧ ds.length = i + 1 ∧ ∀ i d, ds[i]? = some d → P i d, fun H5 h5 => ⟨m - 1, by omega, by omega, h5⟩, fun x H4 y => ?_⟩
    obtain ⟨r4, j4, h4⟩ := yl x H4 y
    have E4 := (E3.go j4 r4).wipe vs
    have h4' : Has (Av C.M (wipeG G vs) A) H4 (f i) x := by
      refine Has.keep (fun _ _ e => e) (fun a xs n e => ⟨fun z => n ?_, e⟩) _ _ h4
      have sub : ∀ vs a, Av C.M (wipeG G vs) A a → Av C.M G A a := fun vs => by
        induction vs with
        | nil => exact fun a z => z
        | cons v vs ih =>
          intro a z
          rcases z with z | ⟨j, z, e⟩
          · exact .inl z
          · exact ih a (.inr ⟨j, (ow_set_val ⟨fun _ z => SD.noConfusion z, fun _ z => SD.noConfusion z⟩ z).1, e⟩)
      exact sub vs a z
    refine turn i hi A σ H4 x _ E4 h4' fun G2 σ2 E5 hw wb => ⟨hw, ?_⟩
    change ∀ (s0 : Shared) (H0 : Hp) (c : Addr) (cl : List (Str × Addr)) (fp : List Addr), wE (X.blk s0 H0 scope (compEnvC scope cl c X.env) fp) elt σ2 H4 _
    intro s0 H0 c cl fp
    refine wb s0 H0 c cl fp A σ2 H4 E5 _ fun d v H6 r6 j6 h6 k6 => ?_
    have nb : ¬ IsB C.M L := fun z => nAv (.inl z)
    have e6 : H6 L = some (.lst acc) := r6.kp L _ (fun _ z => by cases z) nb (r4.kp L _ (fun _ z => by cases z) nb e1)
    have r36 : R C.M H3 H6 := r4.trans r6
    have hd6 : HasL (Av C.M G A) H6 ds acc := hd.go (C := C) j3 r36
    have r26 : R C.M H2 H6 := r3.trans r36
    have hacc := HasL.len hd6
    refine ⟨acc, e6, Nat.lt_of_lt_of_le (show acc.length < 1000000 by omega) (by decide), r26.mut frL, J.mut (H0 := H2) j j6 frL e6 (.inl ⟨_, rfl⟩), ds ++ [d], acc ++ [v], upd_same, ?_, by rw [List.length_append, hlen]; rfl, fun i' d' e' => ?_⟩
    · have ht : ∀ a xs, H6 a = some (.tup xs) → upd H6 L (.lst (acc ++ [v])) a = some (.tup xs) := fun a xs e => by
        rw [upd_ne fun z => ?_]
        · exact e
        · rw [z, e6] at e; cases e
      refine HasL.app (HasL.immK ht ds acc ?_ hd6) (HasL.one (Has.immK ht d v (him i d k6) h6))
      exact immL_iff.mpr fun d' hd' => by
        obtain ⟨i', e'⟩ := List.getElem?_of_mem hd'
        exact him i' d' (hp i' d' e')
    · by_cases q : i' < ds.length
      · rw [List.getElem?_append_left q] at e'
        exact hp i' d' e'
      · rw [List.getElem?_append_right (by omega)] at e'
        have e0 : i' - ds.length = 0 := by
          have := (List.getElem?_eq_some_iff.mp e').1
          simp only [List.length_singleton] at this
          omega
        rw [e0] at e'
        cases e'
        have : i' = i := by omega
        rw [this]
        exact k6
  · obtain rfl : i = n := by omega
    exact .inl ⟨w.2 rfl, hq (.lst ds) _ H3 (r.trans r3) j3 ⟨L, acc, rfl, nAv, e1, hd⟩ (done ds hlen hp)⟩
end
end FL
end
section
set_option Elab.async false
set_option linter.all false
set_option maxRecDepth 100000
/-! Comprehensions, methods of owned lists, owned dicts, reads of owned things. -/
namespace FL
open PySem PySem.Spec PyProof.Rows L2

/-! ### targets of a comprehension: slots of vs alone are set -/
theorem wipe_set {σ : L2.St} {o : Option V} {j : Nat} : ∀ {vs : List Nat}, j ∈ vs → wipe (σ.set j o) vs = wipe σ vs
  | v :: vs, h => by
    show (wipe (σ.set j o) vs).set v none = (wipe σ vs).set v none
    by_cases q : j ∈ vs
    · rw [wipe_set q]
    · have e : j = v := by
        rcases List.mem_cons.mp h with e | e
        · exact e
        · exact absurd e q
      subst e
      have key : ∀ (vs : List Nat) (σ : L2.St), j ∉ vs → wipe (σ.set j o) vs = (wipe σ vs).set j o := fun vs => by
        induction vs with
        | nil => intro σ _; rfl
        | cons w ws ih =>
          intro σ hn
          simp only [not_or, List.mem_cons] at hn
          show (wipe (σ.set j o) ws).set w none = ((wipe σ ws).set w none).set j o
          rw [ih σ hn.2, List.set_comm _ _ hn.1]
      rw [key vs σ q, List.set_set]
theorem wipe_wipe {σ : L2.St} : ∀ {us vs : List Nat}, (∀ u ∈ us, u ∈ vs) → wipe (wipe σ us) vs = wipe σ vs
  | [], _, _ => rfl
  | u :: us, vs, h => by
    show wipe ((wipe σ us).set u none) vs = wipe σ vs
    rw [wipe_set (h u List.mem_cons_self), wipe_wipe fun x hx => h x (List.mem_cons_of_mem _ hx)]
def WGw (X : Cx) (C : Cn) (G : List SD) (tg : Expr) (d : D) (vs : List Nat) (KG : List SD → Prop) : Prop := ∀ A σ H v, Est C G A σ H → Has (Av C.M G A) H d v → ∀ Q : L2.St → Hp → Prop, (∀ G' σ', Est C G' A σ' H → wipe σ' vs = wipe σ vs → (∀ p, Av C.M G' A p → Av C.M G A p) → KG G' → Q σ' H) → wG X tg v σ H Q
def WGws (X : Cx) (C : Cn) (G : List SD) (ts : List Expr) (ds : List D) (vs : List Nat) (KG : List SD → Prop) : Prop := ∀ A σ H xs, Est C G A σ H → HasL (Av C.M G A) H ds xs → ∀ Q : L2.St → Hp → Prop, (∀ G' σ', Est C G' A σ' H → wipe σ' vs = wipe σ vs → (∀ p, Av C.M G' A p → Av C.M G A p) → KG G' → Q σ' H) → wGs X ts xs σ H Q
section
variable {X : Cx} {C : Cn} {G : List SD} {K : D → Prop} {KT : Bool → Prop} {KG : List SD → Prop} {KS : KD} {a b c e tg elt : Expr} {es : List Expr} {st : Stmt} {sts body : List Stmt} {pos p : Pos} {x y : Str} {vs : List Nat} {scope : Scope}
theorem av_val {M : Md} {A : Nat → Addr} {i : Nat} {d : D} : ∀ p, Av M (G.set i (.val d)) A p → Av M G A p := fun p z => by
  rcases z with z | ⟨j, z, e⟩
  · exact .inl z
  · exact .inr ⟨j, (ow_set_val ⟨fun _ z => SD.noConfusion z, fun _ z => SD.noConfusion z⟩ z).1, e⟩
theorem wgw_name (j : Nat) {d : D} (k : KG (G.set j (.val d))) (hj : j ∈ vs) (hN : X.N.Nodup) (hi : X.N[j]? = some x := by rfl) (hx : Loc X.env.scope x := by first | exact Or.inl rfl | exact Or.inr rfl) (hf : X.fn x = true ∨ X.env.scope.names.lookup x = some .local := by first | exact .inl rfl | exact .inr rfl) : WGw X C G (.Name x p) d vs KG :=
  fun A σ H v E hh Q q => toG (pg_name hN hi hx hf) (q _ _ (E.val hh) (wipe_set hj) av_val k)
theorem wgws_nil (k : KG G) : WGws X C G [] [] vs KG := fun A σ H xs E hh Q q => toGs pgs_nil ⟨hh, q _ _ E rfl (fun _ z => z) k⟩
theorem wgws_cons {d : D} {ds : List D} (h : WGw X C G tg d vs fun G' => WGws X C G' es ds vs KG) (hs : (assignEach (tg :: es) X.env).map (·.2) = assign tg X.env :: (assignEach es X.env).map (·.2) := by rfl) : WGws X C G (tg :: es) (d :: ds) vs KG := fun A σ H xs E hh Q q => by
  obtain ⟨x, r, e, h1, h2⟩ : ∃ x r, xs = x :: r ∧ Has _ H d x ∧ HasL _ H ds r := hh
  refine toGs (pgs_cons pwG pwGs hs) ⟨x, r, e, ?_⟩
  refine h A σ H x E h1 _ fun G' σ' E' hw hav k => ?_
  exact k A σ' H r E' (HasL.keep (fun _ _ e => e) (fun a ys n e => ⟨fun z => n (hav _ z), e⟩) ds r h2) Q fun G2 σ2 E2 hw2 hav2 k2 => q G2 σ2 E2 (hw2.trans hw) (fun p z => hav p (hav2 p z)) k2
theorem wgw_tup {ds : List D} {k : Nat} (h : WGws X C G es ds vs KG) (hl : ds.length = (assignEach es X.env).length) (hc : X.calm = true := by rfl) (hst : (assignEach es X.env).findIdx? (·.1) = none := by rfl) : WGw X C G (.Tuple es k pos) (.tup ds) vs KG := fun A σ H v E hh Q q => by
  obtain ⟨a, xs, e, ha, hL⟩ : ∃ a xs, v = .ref a ∧ H a = some (.tup xs) ∧ HasL _ H ds xs := hh
  refine toG (pg_tup hc pwGs rfl hst) ⟨a, xs, e, SqT.of ha, by rw [HasL.len hL, hl], ?_⟩
  exact h A σ H xs E hL Q q
def WBG (X : Cx) (scope : Scope) (C : Cn) (G : List SD) (tg : Expr) (d : D) (vs : List Nat) (KG : List SD → Prop) : Prop := ∀ s H c cl fp, WGw (X.blk s H scope (compEnvC scope cl c X.env) fp) C G tg d vs KG
theorem lc_reading {σ : L2.St} {H : Hp} {A : Nat → Addr} {Q : VK} (E : Est C G A σ H) (hq : ∀ d v H2, R C.M H H2 → J C.M H2 → Has (Av C.M G A) H2 d v → K d → Q v H2)
    (h : WI X C G tg e fun Zs n f => ∃ P : Nat → D → Prop, n ≤ 100000 ∧ (∀ i d, P i d → imm d = true) ∧ (∀ i, i < n → WBG X scope (C.ghs Zs) (wipeG G vs) tg (f i) vs fun G2 => WB X scope (C.ghs Zs) G2 elt (P i)) ∧ ∀ ds, ds.length = n → (∀ i d, ds[i]? = some d → P i d) → K (.lst ds)) :
    tLc (wI X tg e) (fun v σ H Q => ∀ s0 H0 c cl fp, wG (X.blk s0 H0 scope (compEnvC scope cl c X.env) fp) tg v σ H Q) tYes (fun σ H Q => ∀ s0 H0 c cl fp, wE (X.blk s0 H0 scope (compEnvC scope cl c X.env) fp) elt σ H Q) vs σ H Q := by
  refine lc_core2 E hq fun A σ H E Rr q => h A σ H E Rr fun I n f Zs H2 r j hz wk ⟨P, h1, h2, h3, h4⟩ => q I n f Zs H2 r j hz wk ⟨P, h1, h2, fun i hi A σ H v Q E hv k => fun s0 H0 c cl fp => ?_, h4⟩
  exact h3 i hi s0 H0 c cl fp A _ H v E hv Q fun G' σ' E' hw _ kk => k G' σ' E' (hw.trans (wipe_wipe fun u hu => hu)) kk
theorem w_lc {own : List (Str × Nat)} (ok : BlkOk X.N X.env.scope scope own) (hN : X.N.Nodup)
    (h : WI X C G tg e fun Zs n f => ∃ P : Nat → D → Prop, n ≤ 100000 ∧ (∀ i d, P i d → imm d = true) ∧ (∀ i, i < n → WBG X scope (C.ghs Zs) (wipeG G (own.map (·.2))) tg (f i) (own.map (·.2)) fun G2 => WB X scope (C.ghs Zs) G2 elt (P i)) ∧ ∀ ds, ds.length = n → (∀ i d, ds[i]? = some d → P i d) → K (.lst ds))
    (hc : X.calm = true := by rfl) (hs : ∀ x, foldedSetIterable e X.env x = pure x := by intro _; rfl) : W X C G (.ListComp elt [⟨tg, e, [], 0⟩] scope pos) K := fun A σ H E Q q =>
  toE (pe_lc hc hN pwI ok (fun s0 H0 c cl fp => ⟨fun pins s σ H v u Q I r hh => hh s0 H0 c cl fp pins s u I r⟩) (fun _ _ _ _ _ => pts_nil) (fun s0 H0 c cl fp => ⟨fun pins s σ H Q I hh => hh s0 H0 c cl fp pins s I⟩) hs) (lc_reading E q h)
theorem ws_setLc (i : Nat) {own : List (Str × Nat)} {p2 spos : Pos} (ok : BlkOk X.N X.env.scope scope own) (hN : X.N.Nodup)
    (h : WI X C G tg e fun Zs n f => ∃ P : Nat → D → Prop, n ≤ 100000 ∧ (∀ i d, P i d → imm d = true) ∧ (∀ i, i < n → WBG X scope (C.ghs Zs) (wipeG G (own.map (·.2))) tg (f i) (own.map (·.2)) fun G2 => WB X scope (C.ghs Zs) G2 elt (P i)) ∧ ∀ ds, ds.length = n → (∀ i d, ds[i]? = some d → P i d) → KS.nx (G.set i (.val (.lst ds))))
    (hsw : swapsWith (.ListComp elt [⟨tg, e, [], 0⟩] scope pos) (some (.Name y p2)) spos.line X.env = pure true) (hy : X.N[i]? = some y := by rfl) (hyl : X.env.scope.names.lookup y = some .local := by rfl)
    (hc : X.calm = true := by rfl) (hs : ∀ x, foldedSetIterable e X.env x = pure x := by intro _; rfl) : WS X C G (.Assign [.Name y p2] (.ListComp elt [⟨tg, e, [], 0⟩] scope pos) spos) KS := fun A σ H E D q =>
  toS (ps_setLc hc hN hy hyl hsw pwI ok (fun s0 H0 c cl fp => ⟨fun pins s σ H v u Q I r hh => hh s0 H0 c cl fp pins s u I r⟩) (fun _ _ _ _ _ => pts_nil) (fun s0 H0 c cl fp => ⟨fun pins s σ H Q I hh => hh s0 H0 c cl fp pins s I⟩) hs)
    (lc_reading (K := fun d => KS.nx (G.set i (.val d))) E (fun d v H2 r j hh k => q.nx _ A _ _ ((E.go j r).val hh) k) h)
/-! ### methods of an owned list -/
theorem ws_app (i : Nat) {ds : List D} {p1 p2 p3 : Pos} (g : G[i]? = some (.own ds)) (hl : ds.length ≤ 1000000) (h : W X C G e fun d => KS.nx (G.set i (.own (ds ++ [d])))) (hN : X.N[i]? = some x := by rfl) (hv : Vis X.env.scope x := by first | exact Or.inl rfl | exact Or.inr (Or.inl rfl) | exact Or.inr (Or.inr rfl)) (hd : (x == ("__debug__" : Str)) = false := by decide)
    (hcd : (x == ("__classdict__" : Str)) = false := by decide) (he : starEach [e] X.env = (false, eval e X.env) :: starEach [] X.env := by rfl)
    (hfew : ((backTo p3 (starEach [e] X.env)).all (fun x => !x.1) && (backToKw p3 (keywordEach [] X.env)).all (fun x => x.1.isSome) && decide (([e] : List Expr).length + ([] : List Keyword).length + (if ([] : List Keyword).isEmpty then 0 else 1) < 30)) = true := by rfl)
    (hpl : (backTo p3 (starEach [] X.env)).any (·.1) = false := by rfl)
    (hbase : attributeBase (.Name x p1) "append" X.env (eval (.Name x p1) X.env) = eval (.Name x p1) X.env := by rfl) (hline : (p2.endLine == p3.line) = true := by rfl)
    (hs : swapsWith (.Call (.Attribute (.Name x p1) "append" p2) [e] [] p3) none pos.line X.env = pure false := by rfl) : WS X C G (.Expr (.Call (.Attribute (.Name x p1) "append" p2) [e] [] p3) pos) KS := fun A σ H E D q => by
  refine toS (ps_expr (pe_bm PySem.F.plainAttrs_list PySem.F.slot_list_append PySem.F.type_list_append mt_append (pv i hN hv hd hcd) (pa_cons pwE pa_nil he) hbase hfew hline he hpl) hs) ?_
  obtain ⟨e1, xs, e2, hL⟩ := E.sl i _ g
  refine ⟨_, e1, .inl ⟨rfl, xs, SqL.of e2⟩, ?_⟩
  refine h A σ H E _ fun d v H2 r j hh k => ?_
  have E2 := E.go j r
  obtain ⟨_, xs2, e3, hL2⟩ := E2.sl i _ g
  have hlen := HasL.len hL2
  refine ⟨A i, xs2, v, rfl, rfl, e3, Nat.lt_of_le_of_lt (show xs2.length ≤ 1000000 by omega) (by decide), ?_⟩
  exact q.nx _ A _ _ (E2.setOwn g (HasL.app hL2 (HasL.one hh))) k
theorem ws_insert (i : Nat) {ds : List D} {p1 p2 p3 : Pos} (g : G[i]? = some (.own ds)) (hl : ds.length ≤ 1000000) (h : W X C G a fun da => W X C G e fun d => ∃ n : Nat, da = .int n ∧ n ≤ ds.length ∧ KS.nx (G.set i (.own (ds.take n ++ d :: ds.drop n)))) (hN : X.N[i]? = some x := by rfl) (hv : Vis X.env.scope x := by first | exact Or.inl rfl | exact Or.inr (Or.inl rfl) | exact Or.inr (Or.inr rfl)) (hd : (x == ("__debug__" : Str)) = false := by decide)
    (hcd : (x == ("__classdict__" : Str)) = false := by decide) (he : starEach [a, e] X.env = (false, eval a X.env) :: starEach [e] X.env := by rfl) (he2 : starEach [e] X.env = (false, eval e X.env) :: starEach [] X.env := by rfl)
    (hfew : ((backTo p3 (starEach [a, e] X.env)).all (fun x => !x.1) && (backToKw p3 (keywordEach [] X.env)).all (fun x => x.1.isSome) && decide (([a, e] : List Expr).length + ([] : List Keyword).length + (if ([] : List Keyword).isEmpty then 0 else 1) < 30)) = true := by rfl)
    (hpl : (backTo p3 (starEach [e] X.env)).any (·.1) = false := by rfl)
    (hbase : attributeBase (.Name x p1) "insert" X.env (eval (.Name x p1) X.env) = eval (.Name x p1) X.env := by rfl) (hline : (p2.endLine == p3.line) = true := by rfl)
    (hs : swapsWith (.Call (.Attribute (.Name x p1) "insert" p2) [a, e] [] p3) none pos.line X.env = pure false := by rfl) : WS X C G (.Expr (.Call (.Attribute (.Name x p1) "insert" p2) [a, e] [] p3) pos) KS := fun A σ H E D q => by
  refine toS (ps_expr (pe_bm PySem.F.plainAttrs_list PySem.F.slot_list_insert PySem.F.type_list_insert mt_insert (pv i hN hv hd hcd) (pa_cons pwE (pa_cons pwE pa_nil he2) he) hbase hfew hline he hpl) hs) ?_
  obtain ⟨e1, xs, e2, hL⟩ := E.sl i _ g
  refine ⟨_, e1, .inl ⟨rfl, xs, SqL.of e2⟩, ?_⟩
  refine h A σ H E _ fun da v1 H1 r1 j1 h1 k1 => ?_
  refine k1 A σ H1 (E.go j1 r1) _ fun d v H2 r2 j2 h2 k => ?_
  obtain ⟨n, rfl, hn, k⟩ := k
  have E2 := (E.go j1 r1).go j2 r2
  obtain ⟨_, xs2, e3, hL2⟩ := E2.sl i _ g
  have hlen := HasL.len hL2
  refine ⟨A i, xs2, n, v, rfl, by rw [show v1 = .int n from h1], e3, Nat.lt_of_le_of_lt (show xs2.length ≤ 1000000 by omega) (by decide), by omega, by omega, ?_⟩
  have en : ((n : Int)).toNat = n := by omega
  rw [en, List.append_assoc]
  exact q.nx _ A _ _ (E2.setOwn g (HasL.app (HasL.take n hL2) (HasL.app (HasL.one h2) (HasL.drop n hL2)))) k
theorem ws_pop (i : Nat) {ds : List D} {p1 p2 p3 : Pos} (g : G[i]? = some (.own ds)) (hl : ds ≠ []) (k : KS.nx (G.set i (.own ds.dropLast))) (hN : X.N[i]? = some x := by rfl) (hv : Vis X.env.scope x := by first | exact Or.inl rfl | exact Or.inr (Or.inl rfl) | exact Or.inr (Or.inr rfl)) (hd : (x == ("__debug__" : Str)) = false := by decide)
    (hcd : (x == ("__classdict__" : Str)) = false := by decide)
    (hbase : attributeBase (.Name x p1) "pop" X.env (eval (.Name x p1) X.env) = eval (.Name x p1) X.env := by rfl) (hline : (p2.endLine == p3.line) = true := by rfl)
    (hs : swapsWith (.Call (.Attribute (.Name x p1) "pop" p2) [] [] p3) none pos.line X.env = pure false := by rfl) : WS X C G (.Expr (.Call (.Attribute (.Name x p1) "pop" p2) [] [] p3) pos) KS := fun A σ H E D q => by
  refine toS (ps_expr (pe_bm0 PySem.F.plainAttrs_list PySem.F.slot_list_pop PySem.F.type_list_pop mt_pop (pv i hN hv hd hcd) hbase hline) hs) ?_
  obtain ⟨e1, xs, e2, hL⟩ := E.sl i _ g
  have hlen := HasL.len hL
  have hpos : 0 < ds.length := List.length_pos_iff.mpr hl
  refine ⟨_, e1, .inl ⟨rfl, xs, SqL.of e2⟩, A i, xs, xs[xs.length - 1], rfl, rfl, e2, List.getElem?_eq_getElem (by omega), ?_⟩
  refine q.nx _ A _ _ (E.setOwn g ?_) k
  have t := HasL.take (ds.length - 1) hL
  rw [← List.dropLast_eq_take, ← hlen, ← List.dropLast_eq_take] at t
  exact t
theorem ws_extend (i : Nat) {ds : List D} {p1 p2 p3 : Pos} (g : G[i]? = some (.own ds)) (h : W X C G e fun d => ∃ es, d = .lst es ∧ ds.length + es.length ≤ 1000000 ∧ KS.nx (G.set i (.own (ds ++ es)))) (hN : X.N[i]? = some x := by rfl) (hv : Vis X.env.scope x := by first | exact Or.inl rfl | exact Or.inr (Or.inl rfl) | exact Or.inr (Or.inr rfl)) (hd : (x == ("__debug__" : Str)) = false := by decide)
    (hcd : (x == ("__classdict__" : Str)) = false := by decide) (he : starEach [e] X.env = (false, eval e X.env) :: starEach [] X.env := by rfl)
    (hfew : ((backTo p3 (starEach [e] X.env)).all (fun x => !x.1) && (backToKw p3 (keywordEach [] X.env)).all (fun x => x.1.isSome) && decide (([e] : List Expr).length + ([] : List Keyword).length + (if ([] : List Keyword).isEmpty then 0 else 1) < 30)) = true := by rfl)
    (hpl : (backTo p3 (starEach [] X.env)).any (·.1) = false := by rfl)
    (hbase : attributeBase (.Name x p1) "extend" X.env (eval (.Name x p1) X.env) = eval (.Name x p1) X.env := by rfl) (hline : (p2.endLine == p3.line) = true := by rfl)
    (hs : swapsWith (.Call (.Attribute (.Name x p1) "extend" p2) [e] [] p3) none pos.line X.env = pure false := by rfl) : WS X C G (.Expr (.Call (.Attribute (.Name x p1) "extend" p2) [e] [] p3) pos) KS := fun A σ H E D q => by
  refine toS (ps_expr (pe_bm PySem.F.plainAttrs_list PySem.F.slot_list_extend PySem.F.type_list_extend mt_extend (pv i hN hv hd hcd) (pa_cons pwE pa_nil he) hbase hfew hline he hpl) hs) ?_
  obtain ⟨e1, xs, e2, hL⟩ := E.sl i _ g
  refine ⟨_, e1, .inl ⟨rfl, xs, SqL.of e2⟩, ?_⟩
  refine h A σ H E _ fun d v H2 r j hh k => ?_
  obtain ⟨es, rfl, hz, k⟩ := k
  obtain ⟨p, ys, rfl, _, hp, hLy⟩ : ∃ p xs, v = .ref p ∧ ¬ _ ∧ H2 p = some (.lst xs) ∧ HasL _ H2 es xs := hh
  have E2 := E.go j r
  obtain ⟨_, xs2, e3, hL2⟩ := E2.sl i _ g
  have h1 := HasL.len hL2
  have h2 := HasL.len hLy
  refine ⟨A i, p, xs2, ys, rfl, rfl, e3, hp, Nat.le_trans (show xs2.length + ys.length ≤ 1000000 by omega) (by decide), ?_⟩
  exact q.nx _ A _ _ (E2.setOwn g (HasL.app hL2 hLy)) k
/-! ### reads of an owned list -/
theorem w_ixOwn (i : Nat) {ds : List D} {p1 : Pos} (g : G[i]? = some (.own ds)) (h : W X C G b fun db => ∃ j d, db = .int j ∧ L2.atI ds j = some d ∧ K d) (hs : PlainIx b := by exact fun _ _ => rfl) (hN : X.N[i]? = some x := by rfl) (hv : Vis X.env.scope x := by first | exact Or.inl rfl | exact Or.inr (Or.inl rfl) | exact Or.inr (Or.inr rfl)) (hd : (x == ("__debug__" : Str)) = false := by decide)
    (hcd : (x == ("__classdict__" : Str)) = false := by decide) : W X C G (.Subscript (.Name x p1) b pos) K := fun A σ H E Q q => by
  refine toE (pe_ix ix_list (pv i hN hv hd hcd) pwE hs) ?_
  obtain ⟨e1, _⟩ := E.sl i _ g
  refine ⟨_, e1, ?_⟩
  refine h A σ H E _ fun db v H2 r j hh k => ?_
  obtain ⟨jj, d, rfl, e, k⟩ := k
  obtain ⟨_, xs2, e3, hL2⟩ := (E.go j r).sl i _ g
  obtain ⟨z, e4, hz⟩ := HasL.atI hL2 e
  exact ⟨A i, xs2, jj, z, rfl, hh, SqL.of e3, e4, q d z H2 r j hz k⟩
theorem w_lenOwn (i : Nat) {ds : List D} {p1 : Pos} (g : G[i]? = some (.own ds)) (k : K (.int ds.length)) (hm : X.mg "len" = none) (hN : X.N[i]? = some x := by rfl) (hv : Vis X.env.scope x := by first | exact Or.inl rfl | exact Or.inr (Or.inl rfl) | exact Or.inr (Or.inr rfl)) (hd : (x == ("__debug__" : Str)) = false := by decide)
    (hcd : (x == ("__classdict__" : Str)) = false := by decide) (hg : Gl X "len" := by rfl) (he : starEach [.Name x p1] X.env = (false, eval (.Name x p1) X.env) :: starEach [] X.env := by rfl) : W X C G (.Call (.Name "len" p) [.Name x p1] [] pos) K := fun A σ H E Q q => by
  refine toE (pe_callB call_len_seq hg hm PySem.boot_len (pa_cons (pv i hN hv hd hcd) pa_nil he) (by decide) (by decide) he) ?_
  obtain ⟨e1, xs, e2, hL⟩ := E.sl i _ g
  refine ⟨_, e1, A i, xs, rfl, .inl (SqL.of e2), ?_⟩
  rw [HasL.len hL]
  exact q _ _ H R.refl E.j hasI k
theorem w_neNilOwn (i : Nat) {ps : List (Int × Int)} {p1 p2 : Pos} (g : G[i]? = some (.own (prs ps))) (hu : X.A.units + 64 < cLine) (k : K (.bl (!ps.isEmpty))) (hN : X.N[i]? = some x := by rfl) (hv : Vis X.env.scope x := by first | exact Or.inl rfl | exact Or.inr (Or.inl rfl) | exact Or.inr (Or.inr rfl)) (hd : (x == ("__debug__" : Str)) = false := by decide)
    (hcd : (x == ("__classdict__" : Str)) = false := by decide) : W X C G (.Compare (.Name x p1) [.NotEq] [.List [] p2] pos) K := fun A σ H E Q q => by
  refine toE (pe_cmpR (op_neD hu) (pv i hN hv hd hcd) (pe_lst pa_nil) (nomark _)) ?_
  obtain ⟨e1, xs, e2, hL⟩ := E.sl i _ g
  refine ⟨_, e1, Nat.zero_le _, fun l hl => ?_⟩
  have r2 : R C.M H (upd H l (.lst [])) := R.new hl
  refine ⟨.list (pyPrs ps), .list [], .lst (SqL.of (by rw [upd_ne (ne_of_none e2 hl)]; exact e2)) (dp_prs (hL.go E.j r2)), .lst (SqL.of upd_same) .nil, shaped_prs ps, shaped_prs [], ?_⟩
  rw [eqv_prs]
  exact q _ _ _ r2 (E.j.new hl) hasB k
/-! ### an owned dict of ints -/
def lookD (kvs : List (Int × D)) (k : Int) : Option D := (kvs.find? fun kv => decide (kv.1 = k)).map (·.2)
def putD (kvs : List (Int × D)) (k : Int) (d : D) : List (Int × D) := if (kvs.any fun kv => decide (kv.1 = k)) = true then kvs.map (fun kv => if kv.1 = k then (kv.1, d) else kv) else kvs ++ [(k, d)]
theorem lookD_rel {N : Addr → Prop} {H : Hp} (k : Int) : ∀ {kvs : List (Int × D)} {ks : List (Key × V)}, ks.map (·.1) = kvs.map (fun p => Sum.inl p.1) → HasL N H (kvs.map (·.2)) (ks.map (·.2)) →
    (lookD kvs k = none ∧ valV ks (Sum.inl k) = none) ∨ ∃ d v, lookD kvs k = some d ∧ valV ks (Sum.inl k) = some v ∧ Has N H d v
  | [], [], _, _ => .inl ⟨rfl, rfl⟩
  | [], _ :: _, hn, _ => by simp at hn
  | _ :: _, [], hn, _ => by simp at hn
  | (i, d) :: kvs, (z, v) :: ks, h, hL => by
    have h1 : z = Sum.inl i := by simpa using congrArg List.head? h
    have h2 : ks.map (·.1) = kvs.map (fun p => Sum.inl p.1) := by simpa using congrArg List.tail h
    obtain ⟨v', r, e, hv, hr⟩ : ∃ x r, v :: ks.map (fun p : Key × V => p.2) = x :: r ∧ Has N H d x ∧ HasL N H (kvs.map (fun p : Int × D => p.2)) r := hL
    injection e with e3 e4
    subst e3 e4 h1
    by_cases q : i = k
    · subst q
      exact .inr ⟨d, v, by simp [lookD], by simp [valV], hv⟩
    · have n1 : lookD ((i, d) :: kvs) k = lookD kvs k := by simp [lookD, List.find?_cons, q]
      have n2 : valV ((Sum.inl i, v) :: ks) (Sum.inl k : Key) = valV ks (Sum.inl k) := valV_neg (fun z => q (Sum.inl.inj z))
      rw [n1, n2]
      exact lookD_rel k h2 hr
theorem putD_rel {N : Addr → Prop} {H : Hp} (k : Int) {d : D} {v : V} (hd : Has N H d v) {kvs : List (Int × D)} {ks : List (Key × V)} (h : ks.map (·.1) = kvs.map (fun p => Sum.inl p.1)) (hL : HasL N H (kvs.map (·.2)) (ks.map (·.2))) :
    (putK ks (Sum.inl k : Key) v).map (·.1) = (putD kvs k d).map (fun p => Sum.inl p.1) ∧ HasL N H ((putD kvs k d).map (·.2)) ((putK ks (Sum.inl k : Key) v).map (·.2)) := by
  have ha : ∀ {kvs : List (Int × D)} {ks : List (Key × V)}, ks.map (·.1) = kvs.map (fun p => Sum.inl p.1) → (ks.any fun kv => decide (kv.1 = (Sum.inl k : Key))) = (kvs.any fun kv => decide (kv.1 = k)) := fun {kvs} => by
    induction kvs with
    | nil => intro ks h; cases ks with | nil => rfl | cons _ _ => simp at h
    | cons p kvs ih =>
      intro ks h
      cases ks with
      | nil => simp at h
      | cons q ks =>
        have h1 : q.1 = Sum.inl p.1 := by simpa using congrArg List.head? h
        have h2 : ks.map (·.1) = kvs.map (fun p => Sum.inl p.1) := by simpa using congrArg List.tail h
        simp only [List.any_cons, ih h2, h1]
        congr 1
        rw [Bool.eq_iff_iff]; simp
  have hm : ∀ {kvs : List (Int × D)} {ks : List (Key × V)}, ks.map (·.1) = kvs.map (fun p => Sum.inl p.1) → HasL N H (kvs.map (·.2)) (ks.map (·.2)) →
      (ks.map (fun kv => if kv.1 = (Sum.inl k : Key) then (kv.1, v) else kv)).map (·.1) = (kvs.map (fun kv => if kv.1 = k then (kv.1, d) else kv)).map (fun p => Sum.inl p.1) ∧
      HasL N H ((kvs.map (fun kv => if kv.1 = k then (kv.1, d) else kv)).map (·.2)) ((ks.map (fun kv => if kv.1 = (Sum.inl k : Key) then (kv.1, v) else kv)).map (·.2)) := fun {kvs} => by
    induction kvs with
    | nil => intro ks h hL; cases ks with | nil => exact ⟨rfl, rfl⟩ | cons _ _ => simp at h
    | cons p kvs ih =>
      intro ks h hL
      cases ks with
      | nil => simp at h
      | cons q ks =>
        have h1 : q.1 = Sum.inl p.1 := by simpa using congrArg List.head? h
        have h2 : ks.map (·.1) = kvs.map (fun p => Sum.inl p.1) := by simpa using congrArg List.tail h
        obtain ⟨v', r, e, hv, hr⟩ : ∃ x r, q.2 :: ks.map (fun p : Key × V => p.2) = x :: r ∧ Has N H p.2 x ∧ HasL N H (kvs.map (fun p : Int × D => p.2)) r := hL
        injection e with e3 e4
        subst e3 e4
        obtain ⟨i1, i2⟩ := ih h2 hr
        by_cases c : p.1 = k
        · have c2 : q.1 = (Sum.inl k : Key) := by rw [h1, c]
          refine ⟨?_, ?_⟩
          · rw [List.map_cons, List.map_cons, List.map_cons, List.map_cons, if_pos c, if_pos c2, i1]
            show q.1 :: _ = Sum.inl p.1 :: _
            rw [h1]
          · simp only [List.map_cons, if_pos c, if_pos c2]
            exact ⟨v, _, rfl, hd, i2⟩
        · have c2 : ¬ q.1 = (Sum.inl k : Key) := by rw [h1]; exact fun z => c (Sum.inl.inj z)
          refine ⟨?_, ?_⟩
          · rw [List.map_cons, List.map_cons, List.map_cons, List.map_cons, if_neg c, if_neg c2, i1]
            show q.1 :: _ = Sum.inl p.1 :: _
            rw [h1]
          · simp only [List.map_cons, if_neg c, if_neg c2]
            exact ⟨q.2, _, rfl, hv, i2⟩
  unfold putK putD
  rw [ha h]
  split
  · exact hm h hL
  · refine ⟨by rw [List.map_append, List.map_append, h]; rfl, ?_⟩
    rw [List.map_append, List.map_append]
    exact HasL.app hL (HasL.one hd)
theorem w_dgetOwn (i : Nat) {kvs : List (Int × D)} {p1 : Pos} (hu : X.A.units + 1 < cLine) (g : G[i]? = some (.dic kvs)) (h : W X C G b fun db => ∃ j d, db = .int j ∧ lookD kvs j = some d ∧ K d) (hs : NoSl b := by exact fun _ _ => rfl) (hN : X.N[i]? = some x := by rfl) (hv : Vis X.env.scope x := by first | exact Or.inl rfl | exact Or.inr (Or.inl rfl) | exact Or.inr (Or.inr rfl)) (hd : (x == ("__debug__" : Str)) = false := by decide)
    (hcd : (x == ("__classdict__" : Str)) = false := by decide) : W X C G (.Subscript (.Name x p1) b pos) K := fun A σ H E Q q => by
  refine toE (pe_dget hu (pv i hN hv hd hcd) pwE hs) ?_
  obtain ⟨e1, _⟩ := E.sl i _ g
  refine ⟨_, e1, ?_⟩
  refine h A σ H E _ fun db v H2 r j hh k => ?_
  obtain ⟨jj, d, rfl, e, k⟩ := k
  obtain rfl : v = .int jj := hh
  obtain ⟨_, ks, e3, e4, hL2⟩ := (E.go j r).sl i _ g
  rcases lookD_rel jj e4 hL2 with ⟨z, _⟩ | ⟨d', v', z1, z2, z3⟩
  · rw [e] at z; cases z
  · rw [e] at z1; cases z1
    refine ⟨A i, v', rfl, ?_, q d v' H2 r j z3 k⟩
    have t := DGet.k (k := Sum.inl jj) e3
    rw [z2] at t
    exact t
theorem w_dinOwn (i : Nat) {kvs : List (Int × D)} {p1 : Pos} (hu : X.A.units + 1 < cLine) (g : G[i]? = some (.dic kvs)) (h : W X C G b fun db => ∃ j, db = .int j ∧ K (.bl (lookD kvs j).isSome)) (hN : X.N[i]? = some x := by rfl) (hv : Vis X.env.scope x := by first | exact Or.inl rfl | exact Or.inr (Or.inl rfl) | exact Or.inr (Or.inr rfl)) (hd : (x == ("__debug__" : Str)) = false := by decide)
    (hcd : (x == ("__classdict__" : Str)) = false := by decide) : W X C G (.Compare b [.In] [.Name x p1] pos) K := fun A σ H E Q q => by
  refine toE (pe_cmp (pc_din hu pwE (pv i hN hv hd hcd)) rfl) ?_
  refine h A σ H E _ fun db v H2 r j hh k => ?_
  obtain ⟨jj, rfl, k⟩ := k
  obtain rfl : v = .int jj := hh
  obtain ⟨e1, ks, e3, e4, hL2⟩ := (E.go j r).sl i _ g
  refine ⟨_, e1, A i, _, rfl, DGet.k (k := Sum.inl jj) e3, ?_⟩
  have : (lookD kvs jj).isSome = (valV ks (Sum.inl jj : Key)).isSome := by
    rcases lookD_rel jj e4 hL2 with ⟨z, z2⟩ | ⟨d', v', z1, z2, z3⟩
    · rw [z, z2] <;> rfl
    · rw [z1, z2] <;> rfl
  rw [this] at k
  exact q _ _ H2 r j hasB k
theorem w_dninOwn (i : Nat) {kvs : List (Int × D)} {p1 : Pos} (hu : X.A.units + 1 < cLine) (g : G[i]? = some (.dic kvs)) (h : W X C G b fun db => ∃ j, db = .int j ∧ K (.bl (!(lookD kvs j).isSome))) (hN : X.N[i]? = some x := by rfl) (hv : Vis X.env.scope x := by first | exact Or.inl rfl | exact Or.inr (Or.inl rfl) | exact Or.inr (Or.inr rfl)) (hd : (x == ("__debug__" : Str)) = false := by decide)
    (hcd : (x == ("__classdict__" : Str)) = false := by decide) : W X C G (.Compare b [.NotIn] [.Name x p1] pos) K := fun A σ H E Q q => by
  refine toE (pe_cmp (pc_dnotin hu pwE (pv i hN hv hd hcd)) rfl) ?_
  refine h A σ H E _ fun db v H2 r j hh k => ?_
  obtain ⟨jj, rfl, k⟩ := k
  obtain rfl : v = .int jj := hh
  obtain ⟨e1, ks, e3, e4, hL2⟩ := (E.go j r).sl i _ g
  refine ⟨_, e1, A i, _, rfl, DGet.k (k := Sum.inl jj) e3, ?_⟩
  have : (lookD kvs jj).isSome = (valV ks (Sum.inl jj : Key)).isSome := by
    rcases lookD_rel jj e4 hL2 with ⟨z, z2⟩ | ⟨d', v', z1, z2, z3⟩
    · rw [z, z2] <;> rfl
    · rw [z1, z2] <;> rfl
  rw [this] at k
  exact q _ _ H2 r j hasB k
theorem wt_dinOwn (i : Nat) {kvs : List (Int × D)} {p1 : Pos} (hu : X.A.units + 1 < cLine) (g : G[i]? = some (.dic kvs)) (h : W X C G b fun db => ∃ j, db = .int j ∧ KT (lookD kvs j).isSome) (hN : X.N[i]? = some x := by rfl) (hv : Vis X.env.scope x := by first | exact Or.inl rfl | exact Or.inr (Or.inl rfl) | exact Or.inr (Or.inr rfl)) (hd : (x == ("__debug__" : Str)) = false := by decide)
    (hcd : (x == ("__classdict__" : Str)) = false := by decide) : WT X C G (.Compare b [.In] [.Name x p1] pos) KT := fun A σ H E Q q => by
  refine toT (pt_cmp (pc_din hu pwE (pv i hN hv hd hcd)) rfl) ?_
  refine h A σ H E _ fun db v H2 r j hh k => ?_
  obtain ⟨jj, rfl, k⟩ := k
  obtain rfl : v = .int jj := hh
  obtain ⟨e1, ks, e3, e4, hL2⟩ := (E.go j r).sl i _ g
  refine ⟨_, e1, A i, _, rfl, DGet.k (k := Sum.inl jj) e3, _, rfl, ?_⟩
  have : (lookD kvs jj).isSome = (valV ks (Sum.inl jj : Key)).isSome := by
    rcases lookD_rel jj e4 hL2 with ⟨z, z2⟩ | ⟨d', v', z1, z2, z3⟩
    · rw [z, z2] <;> rfl
    · rw [z1, z2] <;> rfl
  rw [this] at k
  exact q _ H2 r j k
theorem ws_dputOwn (i : Nat) {kvs : List (Int × D)} {p1 p2 : Pos} (hu : X.A.units + 1 < cLine) (g : G[i]? = some (.dic kvs)) (hl : kvs.length ≤ 1000000) (h : W X C G e fun d => W X C G b fun db => imm d = true ∧ ∃ j, db = .int j ∧ KS.nx (G.set i (.dic (putD kvs j d)))) (hN : X.N[i]? = some x := by rfl) (hv : Vis X.env.scope x := by first | exact Or.inl rfl | exact Or.inr (Or.inl rfl) | exact Or.inr (Or.inr rfl)) (hd : (x == ("__debug__" : Str)) = false := by decide)
    (hcd : (x == ("__classdict__" : Str)) = false := by decide) (hs : swapsWith e (some (.Subscript (.Name x p1) b p2)) pos.line X.env = pure false := by rfl) : WS X C G (.Assign [.Subscript (.Name x p1) b p2] e pos) KS := fun A σ H E D q => by
  refine toS (ps_dput hu (pv i hN hv hd hcd) pwE pwE hs) ?_
  refine h A σ H E _ fun d v H1 r1 j1 h1 k1 => ?_
  obtain ⟨e1, _⟩ := (E.go j1 r1).sl i _ g
  refine ⟨_, e1, ?_⟩
  refine k1 A σ H1 (E.go j1 r1) _ fun db w H2 r2 j2 h2 k2 => ?_
  obtain ⟨im, jj, rfl, k⟩ := k2
  obtain rfl : w = .int jj := h2
  have E2 := (E.go j1 r1).go j2 r2
  obtain ⟨_, ks, e3, e4, hL2⟩ := E2.sl i _ g
  have hlen : ks.length = kvs.length := by simpa using congrArg List.length e4
  obtain ⟨p1, p2⟩ := putD_rel jj (h1.go j1 r2) e4 hL2
  refine ⟨A i, _, rfl, DPut.k (k := Sum.inl jj) e3 (Nat.lt_of_le_of_lt (show ks.length ≤ 1000000 by omega) (by decide)), ?_⟩
  exact q.nx _ A _ _ (E2.setDic g p1 p2) k
end
end FL
end
section
set_option Elab.async false
set_option linter.all false
set_option maxRecDepth 100000
/-! A def by its body. -/
namespace FL
open PySem PySem.Spec PyProof.Rows L2
def startD (N : List Str) (ds : List D) : List SD := ds.map .val ++ List.replicate (N.length - ds.length) .no
theorem start_est {M : Md} {H : Hp} {N : List Str} {ds : List D} {vs : List V} (j : J M H) (h : HasL (AvM M) H ds vs) : Est ⟨M, H, []⟩ (startD N ds) (fun _ => 0) (L2.start N vs) H := by
  have no : ∀ i, ¬ Ow (startD N ds) i := noOw_ow (by
    unfold noOw startD
    rw [List.all_append, Bool.and_eq_true, List.all_eq_true, List.all_eq_true]
    refine ⟨fun s hs => ?_, fun s hs => ?_⟩
    · obtain ⟨d, _, rfl⟩ := List.mem_map.mp hs; rfl
    · rw [List.mem_replicate] at hs; rw [hs.2])
  have hl := HasL.len h
  have ln : (startD N ds).length = (L2.start N vs).length := by
    unfold startD L2.start
    rw [List.length_append, List.length_append, List.length_map, List.length_map, List.length_replicate, List.length_replicate, hl]
  refine ⟨j, j, R.refl, ln, fun i _ a => absurd a (no i), fun i a => absurd a (no i), fun i s e => ?_, fun g hg => absurd hg (by simp)⟩
  unfold startD at e
  by_cases q : i < ds.length
  · rw [List.getElem?_append_left (by simpa using q), List.getElem?_map, List.getElem?_eq_getElem q] at e
    cases e
    obtain ⟨x, e1, hx⟩ := HasL.get h (List.getElem?_eq_getElem q)
    refine ⟨x, ?_, Has.keep (fun _ _ e => e) (fun a xs n e => ⟨fun z => ?_, e⟩) _ _ hx⟩
    · unfold L2.start
      rw [List.getElem?_append_left (by rw [List.length_map]; omega), List.getElem?_map, e1]
      rfl
    · rcases z with z | ⟨j, o, _⟩
      · exact n z
      · exact no j o
  · rw [List.getElem?_append_right (by rw [List.length_map]; omega)] at e
    have := List.mem_of_getElem? e
    rw [List.mem_replicate] at this
    rw [this.2]
    trivial
section
variable {P : Program} {w : World} {K : PySem.W.Frag} {mg : Str → Option Value} {base : Heap}
abbrev XC (P : Program) (w : World) (K : PySem.W.Frag) (mg : Str → Option Value) (base : Heap) (N : List Str) (qual : Str) (st : Stmt) (f : Addr) (cdv : Value) (A : Around) (outer : List Env) (s : Shared) (H : Hp) (E : XK) : Cx := (cxOf CX0 P w K mg base N qual (defScope st) f cdv A outer s H E).nox
theorem fn_W {x qual : Str} {st : Stmt} {f : Addr} {fd : FuncData} {N ps : List Str} {k : Nat} {F : Md → List D → (D → Prop) → Prop} (Fu : Fun K x qual st f fd) (S : FnScope N ps (defScope st)) (gm : mg x = some (.ref f)) (bS : Binds K fd ps []) (hlen : ∀ M ds Kp, F M ds Kp → ds.length = ps.length)
    (hb : ∀ cdv A outer s H E M Kp ds, Room k (A.deeper (envOfC qual (defScope st) s.heap.objs.size f cdv)) → F M ds Kp → WSs (XC P w K mg base N qual st f cdv A outer s H E) ⟨M, H, []⟩ (startD N ds) (defBody st) { nx := fun _ => Kp .non, rt := Kp }) : FnR P w K mg base x (k + 1) F := by
  refine ⟨f, fd, ps, Fu.ok S (fun vs H Q E h => ?_) (fun cdv A outer s H vs Q E hr h => ?_), gm, Fu.kp, bS⟩
  · obtain ⟨M, ds, Kp, _, hL, hF, _⟩ := h
    rw [HasL.len hL, hlen M ds Kp hF]
  · obtain ⟨M, ds, Kp, j, hL, hF, q⟩ := h
    refine ⟨_, pwSs, hb cdv A outer s H E M Kp ds hr hF _ _ H (start_est j hL) _ ⟨fun G A σ H' E' k => ?_, fun d v H' j' r' hd k => q d v H' r' j' hd k, fun _ _ _ _ _ k => k.elim, fun _ _ _ _ _ k => k.elim⟩⟩
    exact q .non .non H' E'.r E'.j hasN k
end
end FL
end
section
set_option Elab.async false
set_option linter.all false
set_option maxRecDepth 100000
/-! More rules. -/
namespace FL
open PySem PySem.Spec PyProof.Rows L2
section
variable {X : Cx} {C : Cn} {G : List SD} {A : Nat → Addr} {σ : L2.St} {H : Hp} {K : D → Prop} {KT : Bool → Prop} {KS : KD} {a b c e tg : Expr} {es : List Expr} {pos p : Pos} {x y z : Str}
theorem av_val2 {M : Md} {A : Nat → Addr} {i : Nat} {d d2 : D} {v : V} {H : Hp} {G : List SD} (h : Has (Av M G A) H d v) : Has (Av M (G.set i (.val d2)) A) H d v := Has.keep (fun _ _ e => e) (fun a xs n e => ⟨fun z => n (av_val _ z), e⟩) d v h
theorem ws_par3 (i j l : Nat) {px py pz pt : Pos} {kt k2 : Nat} {pt2 : Pos} (h : W X C G a fun da => W X C G b fun db => W X C G c fun dc => KS.nx (((G.set i (.val da)).set j (.val db)).set l (.val dc))) (hN : X.N.Nodup) (hi : X.N[i]? = some x := by rfl) (hj : X.N[j]? = some y := by rfl) (hl : X.N[l]? = some z := by rfl) (hij : i ≠ j := by decide) (hil : i ≠ l := by decide) (hjl : j ≠ l := by decide)
    (hx : X.env.scope.names.lookup x = some .local := by rfl) (hy : X.env.scope.names.lookup y = some .local := by rfl) (hz : X.env.scope.names.lookup z = some .local := by rfl) (hc : X.calm = true := by rfl) (hea : starEach [a, b, c] X.env = (false, eval a X.env) :: starEach [b, c] X.env := by rfl) (heb : starEach [b, c] X.env = (false, eval b X.env) :: starEach [c] X.env := by rfl) (hec : starEach [c] X.env = (false, eval c X.env) :: starEach [] X.env := by rfl)
    (hw : swappedStores [.Tuple [.Name x px, .Name y py, .Name z pz] kt pt] (.Tuple [a, b, c] k2 pt2) X.env = pure (some [x, y, z]) := by rfl)
    (hsw : swapsWithSole [.Tuple [.Name x px, .Name y py, .Name z pz] kt pt] (.Tuple [a, b, c] k2 pt2) pos.line X.env = pure false := by rfl) :
    WS X C G (.Assign [.Tuple [.Name x px, .Name y py, .Name z pz] kt pt] (.Tuple [a, b, c] k2 pt2) pos) KS := fun A σ H E D q => by
  refine toS (ps_par3 hc hN hi hj hl hij hil hjl hx hy hz (pa_cons pwE (pa_cons pwE (pa_cons pwE pa_nil hec) heb) hea) hw hsw) ?_
  refine h A σ H E _ fun da v H1 r1 j1 h1 k1 => ?_
  refine k1 A σ H1 (E.go j1 r1) _ fun db w H2 r2 j2 h2 k2 => ?_
  refine k2 A σ H2 ((E.go j1 r1).go j2 r2) _ fun dc u H3 r3 j3 h3 k3 => ?_
  refine ⟨v, w, u, rfl, ?_⟩
  have E3 := ((E.go j1 r1).go j2 r2).go j3 r3
  have E4 := E3.val (i := i) ((h1.go j1 r2).go j2 r3)
  have E5 := E4.val (i := j) (av_val2 (h2.go j2 r3))
  exact q.nx _ A _ _ (E5.val (i := l) (av_val2 (av_val2 h3))) k3
theorem ws_par3O (i j l : Nat) {px py pz pt p3 : Pos} {kt k2 : Nat} {pt2 : Pos} (h : W X C G a fun da => W X C G b fun db => KS.nx (((G.set i (.val da)).set j (.val db)).set l (.own []))) (hN : X.N.Nodup) (hi : X.N[i]? = some x := by rfl) (hj : X.N[j]? = some y := by rfl) (hl : X.N[l]? = some z := by rfl) (hij : i ≠ j := by decide) (hil : i ≠ l := by decide) (hjl : j ≠ l := by decide)
    (hx : X.env.scope.names.lookup x = some .local := by rfl) (hy : X.env.scope.names.lookup y = some .local := by rfl) (hz : X.env.scope.names.lookup z = some .local := by rfl) (hc : X.calm = true := by rfl) (hea : starEach [a, b, .List [] p3] X.env = (false, eval a X.env) :: starEach [b, .List [] p3] X.env := by rfl) (heb : starEach [b, .List [] p3] X.env = (false, eval b X.env) :: starEach [.List [] p3] X.env := by rfl) (hec : starEach [.List [] p3] X.env = (false, eval (.List [] p3) X.env) :: starEach [] X.env := by rfl)
    (hw : swappedStores [.Tuple [.Name x px, .Name y py, .Name z pz] kt pt] (.Tuple [a, b, .List [] p3] k2 pt2) X.env = pure (some [x, y, z]) := by rfl)
    (hs : swapsWithSole [.Tuple [.Name x px, .Name y py, .Name z pz] kt pt] (.Tuple [a, b, .List [] p3] k2 pt2) pos.line X.env = pure false := by rfl) :
    WS X C G (.Assign [.Tuple [.Name x px, .Name y py, .Name z pz] kt pt] (.Tuple [a, b, .List [] p3] k2 pt2) pos) KS := fun A σ H E D q => by
  refine toS (ps_par3 hc hN hi hj hl hij hil hjl hx hy hz (pa_cons pwE (pa_cons pwE (pa_cons (pe_lst pa_nil) pa_nil hec) heb) hea) hw hs) ?_
  refine h A σ H E _ fun da v H1 r1 j1 h1 k1 => ?_
  refine k1 A σ H1 (E.go j1 r1) _ fun db w H2 r2 j2 h2 k2 => ?_
  refine ⟨Nat.zero_le _, fun p hp => ⟨v, w, .ref p, rfl, ?_⟩⟩
  have E3 := (E.go j1 r1).go j2 r2
  have E4 := E3.val (i := i) (h1.go j1 r2)
  have E5 := E4.val (i := j) (av_val2 h2)
  obtain ⟨A', E'⟩ := E5.mkOwn (i := l) (ds := []) (xs := []) hp rfl
  exact q.nx _ A' _ _ E' k2
/-- a, b = e1, {k: None}: the dict owned -/
theorem ws_par2D (i j : Nat) {px py pt p3 p4 p5 : Pos} {kt k2 : Nat} {pt2 : Pos} {n : Int} {m1 m2 : Nat} (h : W X C G a fun da => KS.nx ((G.set i (.val da)).set j (.dic [(n, .non)]))) (hN : X.N.Nodup) (hi : X.N[i]? = some x := by rfl) (hj : X.N[j]? = some y := by rfl) (hij : i ≠ j := by decide)
    (hx : X.env.scope.names.lookup x = some .local := by rfl) (hy : X.env.scope.names.lookup y = some .local := by rfl) (hc : X.calm = true := by rfl)
    (hea : starEach [a, .Dict [some (.Constant (.int n) m1 p4)] [.Constant .none m2 p5] p3] X.env = (false, eval a X.env) :: starEach [.Dict [some (.Constant (.int n) m1 p4)] [.Constant .none m2 p5] p3] X.env := by rfl) (heb : starEach [.Dict [some (.Constant (.int n) m1 p4)] [.Constant .none m2 p5] p3] X.env = (false, eval (.Dict [some (.Constant (.int n) m1 p4)] [.Constant .none m2 p5] p3) X.env) :: starEach [] X.env := by rfl)
    (hw : swappedStores [.Tuple [.Name x px, .Name y py] kt pt] (.Tuple [a, .Dict [some (.Constant (.int n) m1 p4)] [.Constant .none m2 p5] p3] k2 pt2) X.env = pure (some [x, y]) := by rfl)
    (hs : swapsWithSole [.Tuple [.Name x px, .Name y py] kt pt] (.Tuple [a, .Dict [some (.Constant (.int n) m1 p4)] [.Constant .none m2 p5] p3] k2 pt2) pos.line X.env = pure false := by rfl) :
    WS X C G (.Assign [.Tuple [.Name x px, .Name y py] kt pt] (.Tuple [a, .Dict [some (.Constant (.int n) m1 p4)] [.Constant .none m2 p5] p3] k2 pt2) pos) KS := fun A σ H E D q => by
  refine toS (ps_par hc hN hi hj hij hx hy (pa_cons pwE (pa_cons (pe_disp (pps_cons pe_int pe_non pps_nil) rfl rfl (fun z => by cases z) (by show 1 ≤ 15; decide)) pa_nil heb) hea) hw hs) ?_
  refine h A σ H E _ fun da v H1 r1 j1 h1 k1 => ?_
  intro p hp
  refine ⟨upd_same, [(Sum.inl n, .non)], rfl, (by show 1 ≤ 15; decide), v, .ref p, rfl, ?_⟩
  rw [upd_upd]
  obtain ⟨A', E'⟩ := ((E.go j1 r1).val (i := i) h1).mkDic (i := j) (kvs := [(n, .non)]) (ks := [(Sum.inl n, .non)]) hp rfl ⟨_, _, rfl, rfl, rfl⟩
  exact q.nx _ A' _ _ E' k1
/-- a, b = [], e2, a name a cell: the pair is made and taken apart -/
theorem ws_asgO1 (i j : Nat) {px py pt p3 : Pos} {kt k2 : Nat} {pt2 : Pos} (h : W X C G b fun db => imm db = true ∧ KS.nx ((G.set i (.own [])).set j (.val db))) (hN : X.N.Nodup) (hi : X.N[i]? = some x := by rfl) (hj : X.N[j]? = some y := by rfl) (hij : i ≠ j := by decide)
    (hx : Loc X.env.scope x := by first | exact Or.inl rfl | exact Or.inr rfl) (hy : Loc X.env.scope y := by first | exact Or.inl rfl | exact Or.inr rfl) (hfx : X.fn x = true ∨ X.env.scope.names.lookup x = some .local := by first | exact .inl rfl | exact .inr rfl) (hfy : X.fn y = true ∨ X.env.scope.names.lookup y = some .local := by first | exact .inl rfl | exact .inr rfl)
    (hc : X.calm = true := by rfl) (hea : starEach [.List [] p3, b] X.env = (false, eval (.List [] p3) X.env) :: starEach [b] X.env := by rfl) (heb : starEach [b] X.env = (false, eval b X.env) :: starEach [] X.env := by rfl)
    (hs : swapsWithSole [.Tuple [.Name x px, .Name y py] kt pt] (.Tuple [.List [] p3, b] k2 pt2) pos.line X.env = pure false := by rfl) (hw : swappedStores [.Tuple [.Name x px, .Name y py] kt pt] (.Tuple [.List [] p3, b] k2 pt2) X.env = pure none := by rfl)
    (h1 : (assignEach [.Tuple [.Name x px, .Name y py] kt pt] X.env).map (·.2) = [assign (.Tuple [.Name x px, .Name y py] kt pt) X.env] := by rfl)
    (hn : (assignEach [.Name x px, .Name y py] X.env).length = 2 := by rfl) (hst : (assignEach [.Name x px, .Name y py] X.env).findIdx? (·.1) = none := by rfl)
    (g1 : (assignEach [.Name x px, .Name y py] X.env).map (·.2) = assign (.Name x px) X.env :: (assignEach [.Name y py] X.env).map (·.2) := by rfl) (g2 : (assignEach [.Name y py] X.env).map (·.2) = assign (.Name y py) X.env :: (assignEach [] X.env).map (·.2) := by rfl) :
    WS X C G (.Assign [.Tuple [.Name x px, .Name y py] kt pt] (.Tuple [.List [] p3, b] k2 pt2) pos) KS := fun A σ H E D q => by
  refine toS (ps_asg (pe_tup (pa_cons (pe_lst pa_nil) (pa_cons pwE pa_nil heb) hea)) (pg_tup hc (pgs_cons (pg_name hN hi hx hfx) (pgs_cons (pg_name hN hj hy hfy) pgs_nil g2) g1) hn hst) hs hw h1) ?_
  refine ⟨Nat.zero_le _, fun p hp => ?_⟩
  have r0 : R C.M H (upd H p (.lst [])) := R.new hp
  refine h A σ (upd H p (.lst [])) (E.go (E.j.new hp) r0) _ fun db w H2 r2 j2 h2 k2 => ?_
  refine ⟨by show 2 ≤ sizeLine; decide, fun t ht => ?_⟩
  refine ⟨t, [.ref p, w], rfl, SqT.of upd_same, rfl, _, _, rfl, _, _, rfl, rfl, ?_⟩
  have hpb : ¬ IsB C.M p := fun z => by
    obtain ⟨xs, q⟩ := E.j.bagL z
    rw [hp] at q; cases q
  have e2 := r2.kp p _ (fun _ z => by cases z) hpb upd_same
  have r3 : R C.M H2 (upd H2 t (.tup [.ref p, w])) := R.new ht
  obtain ⟨A', E'⟩ := E.mkNil (i := i) hp ((r0.trans r2).trans r3) (j2.new ht) (r3.kp p _ (fun _ z => by cases z) hpb e2)
  exact q.nx _ A' _ _ (E'.val (i := j) (Has.immK (fun a xs e => j2.tup r3 a xs e) db w k2.1 h2)) k2.2
/-- x += e, x -= e of ints -/
theorem ws_aug {op : Operator} {f : Int → Int → Int} (ho : PIp X op (ipI f)) (i : Nat) {n : Int} {p1 : Pos} (g : G[i]? = some (.val (.int n))) (h : W X C G e fun d => ∃ m, d = .int m ∧ KS.nx (G.set i (.val (.int (f n m))))) (hN : X.N.Nodup) (hi : X.N[i]? = some x := by rfl) (hx : Loc X.env.scope x := by first | exact Or.inl rfl | exact Or.inr rfl) (hf : X.fn x = true ∨ X.env.scope.names.lookup x = some .local := by first | exact .inl rfl | exact .inr rfl) :
    WS X C G (.AugAssign (.Name x p1) op e pos) KS := fun A σ H E D q => by
  refine toS (ps_aug hN hi hx pwE ho hf) ?_
  obtain ⟨v, e1, hv⟩ := E.sl i _ g
  obtain rfl : v = .int n := hv
  refine ⟨_, e1, h A σ H E _ fun d w H2 r j hh k => ?_⟩
  obtain ⟨m, rfl, k⟩ := k
  obtain rfl : w = .int m := hh
  exact ⟨n, m, rfl, rfl, q.nx _ A _ _ ((E.go j r).val hasI) k⟩
end
end FL
end
section
set_option Elab.async false
set_option linter.all false
set_option maxRecDepth 100000
/-! A lambda of one argument, handed to a def and called there. -/
namespace FL
open PySem PySem.Spec PyProof.Rows L2
abbrev lEnv (X : Cx) (scope : Scope) (L f c' : Addr) : Env := PySem.W.envX (X.env.qual ++ "<lambda>") scope L f (.ref c') (cloFrom X.env.cells scope.names [])
/-- the parameter alone is its own name; the others are captured or global -/
structure LamOk (sc scope : Scope) (N : List Str) (t : Str) : Prop where
  kind : scope.kind = .function
  nco : scope.isCoroutine = false
  ngen : scope.isGenerator = false
  par : scope.names.lookup t = some .local
  own : ∀ y ∈ scope.names, y.2 ≠ .cell ∧ (y.2 = .local → y.1 = t)
  fre : ∀ y ∈ scope.names, y.2 = .free → sc.names.lookup y.1 = some .cell ∨ sc.names.lookup y.1 = some .free
  new : t ∉ N
/-- the lambda's body, entered at s1 from the frames outer, the argument in the last slot -/
def lamC (X : Cx) (A : Around) (outer : List Env) (s : Shared) (H : Hp) (scope : Scope) (t : Str) (f c' : Addr) : Cx where
  prog := X.prog
  w := X.w
  K := X.K
  mg := X.mg
  base := X.base
  A := A.deeper (lEnv X scope s.heap.objs.size f c')
  N := X.N ++ [t]
  s_0 := s
  H_0 := H
  env := lEnv X scope s.heap.objs.size f c'
  outer := outer
  stack := lEnv X scope s.heap.objs.size f c' :: outer
  ex := []
  fn := fun _ => false
  calm := true
  pn := []
  xe := fun _ _ => False
section
variable {X : Cx} {pins : List (Addr × Obj)} {σ : L2.St} {H HZ : Hp} {s s1 : Shared}
theorem lam_begin {A : Around} {outer : List Env} {scope : Scope} {t : Str} {f c' : Addr} {h₁ : Heap} {tk : Nat} {v : V} {u : Value} (I : Inv X pins σ H s) (L : LamOk X.env.scope scope X.N t) (e0 : Env0 X.prog X.w X.K X.mg X.base A outer s1 HZ) (hd : A.handled = none)
    (unch : Un (frs X.stack) [] H HZ s.heap s1.heap) (hns : h₁.Ns s1.heap.objs.size fun y => ([(t, u)] : List (Str × Value)).reverse.lookup y) (kp : ∀ b o, s1.heap.get? b = some o → h₁.get? b = some o) (rv : RelV v u) :
    Inv (lamC X A outer s1 HZ scope t f c') [] (σ ++ [some v]) HZ { s1 with heap := h₁, toks := tk } := by
  have openC : ∀ y ∈ scope.names, y.2 = .free → ∃ c, X.env.cells.lookup y.1 = some c := fun y hy e => by
    rcases L.fre y hy e with a1 | a1
    · exact I.ok.has _ (.inl a1)
    · exact I.ok.has _ (.inr a1)
  have cIn : ∀ {y c}, (cloFrom X.env.cells scope.names []).lookup y = some c → X.env.cells.lookup y = some c := fun {y c} e => by
    rcases cloFrom_mem (PySem.mem_of_lookup e) with z | ⟨h1, h2⟩
    · cases z
    · obtain ⟨c1, hc⟩ := openC _ h1 rfl
      have hcl : X.env.cells.lookup y = some c1 := hc
      have e2 : c = c1 := by
        rw [h2, hcl] <;> rfl
      rw [e2]
      exact hcl
  have look : ∀ {y}, scope.names.lookup y = some .free → ∃ c, (cloFrom X.env.cells scope.names []).lookup y = some c := fun {y} hl => mem_lookup (cloFrom_has (cells := X.env.cells) (acc := []) (PySem.mem_of_lookup hl))
  have cKeep : ∀ {c : Addr} {v : Option Value}, H c = none → s.heap.IsCell c v → h₁.IsCell c v := fun {c v} n ⟨o, ho, hdd⟩ => by
    obtain ⟨sl, q⟩ := unch.any ho n (by simp)
    exact ⟨_, kp _ _ q, hdd⟩
  have noneOf : ∀ b : Addr, b ∉ (lamC X A outer s1 HZ scope t f c').ex := fun b z => absurd (show b ∈ ([] : List Addr) from z) (by simp)
  have lenN : σ.length = X.N.length := I.len
  refine ⟨⟨e0.mod, L.kind, rfl, rfl, Nat.le_refl _, fun y z c e1 e2 => I.ok.inj y z c (cIn e1) (cIn e2), fun y hy => ?_, fun y c z _ => ?_, fun _ => hd, Around.frames_deeper e0.frames, .inr ⟨rfl, rfl⟩, fun b z => absurd z (noneOf b), e0.bs, e0.bsz, fun b _ _ => noneOf b,
      fun b z => absurd z (noneOf b), e0.funs, e0.frf⟩,
    rfl, e0.bare, Un.kept kp, ⟨_, hns, fun i y v' e1 e2 e3 => ?_⟩, fun y c e => ?_, e0.hok.fresh (Nat.le_refl _), fun y c e => ?_, fun q hz9 => absurd (show q ∈ ([] : List (Addr × Obj)) ++ [] from hz9) (by simp), e0.hok.kept kp, ?_⟩
  · rcases (hy : scope.names.lookup y = some .cell ∨ scope.names.lookup y = some .free) with p1 | p1
    · exact absurd rfl (L.own _ (PySem.mem_of_lookup p1)).1
    · exact look p1
  · have z : false = true := z
    cases z
  · have e1 : (X.N ++ [t])[i]? = some y := e1
    have e3 : Vis scope y := e3
    by_cases hi : i < X.N.length
    · rw [List.getElem?_append_left hi] at e1
      rw [List.getElem?_append_left (by omega)] at e2
      have ynt : y ≠ t := fun z => L.new (by rw [← z]; exact List.mem_of_getElem? e1)
      rcases e3 with k | k | k
      · exact absurd ((L.own _ (PySem.mem_of_lookup k)).2 rfl) ynt
      · exact ((L.own _ (PySem.mem_of_lookup k)).1 rfl).elim
      · obtain ⟨m, hn, hl⟩ := I.loc
        have seen : Vis X.env.scope y := (L.fre _ (PySem.mem_of_lookup k) rfl).elim (fun k => .inr (.inl k)) (fun k => .inr (.inr k))
        obtain ⟨wv, r, q⟩ := hl i y v' e1 e2 seen
        obtain ⟨c2, h2⟩ := look k
        refine ⟨wv, r, .inr ⟨.inr k, c2, h2, ?_⟩⟩
        have c1 := cIn h2
        rcases q with ⟨kl, _⟩ | ⟨_, cc3, e', z⟩
        · have kl : X.env.scope.names.lookup y = some .local := kl
          rcases L.fre _ (PySem.mem_of_lookup k) rfl with kk2 | kk2 <;> rw [show X.env.scope.names.lookup y = _ from kk2] at kl <;> cases kl
        · rw [c1] at e'
          cases e'
          exact cKeep (I.freeC y _ c1) z
    · rw [List.getElem?_append_right (by omega)] at e1
      rw [List.getElem?_append_right (by omega), lenN] at e2
      have i0 : i - X.N.length = 0 := by
        have := (List.getElem?_eq_some_iff.mp e1).1
        simp only [List.length_singleton] at this
        omega
      rw [i0] at e1 e2
      cases e1
      cases e2
      exact ⟨u, rv, .inl ⟨L.par, by simp⟩⟩
  · obtain ⟨wv, z⟩ := I.cell y c (cIn e)
    exact ⟨wv, cKeep (I.freeC y c (cIn e)) z⟩
  · obtain ⟨v, o, ho, hdd⟩ := I.cell y c (cIn e)
    exact unch.free c o ho (I.freeC y c (cIn e)) (by simp)
  · show (σ ++ [some v]).length = (X.N ++ [t]).length
    rw [List.length_append, List.length_append, lenN]
    rfl
end
theorem Est.snoc {C : Cn} {G : List SD} {A : Nat → Addr} {σ : L2.St} {H : Hp} (E : Est C G A σ H) {d : D} {v : V} (h : Has (Av C.M G A) H d v) : Est C (G ++ [.val d]) A (σ ++ [some v]) H := by
  have ow : ∀ i, Ow (G ++ [.val d]) i → Ow G i := fun i z => by
    unfold Ow at z ⊢
    by_cases hi : i < G.length
    · rw [List.getElem?_append_left hi] at z; exact z
    · rw [List.getElem?_append_right (by omega)] at z
      rcases z with ⟨ds, e⟩ | ⟨ds, e⟩
      · have := List.mem_of_getElem? e; simp at this
      · have := List.mem_of_getElem? e; simp at this
  have av : ∀ p, Av C.M (G ++ [.val d]) A p → Av C.M G A p := fun p z => by
    rcases z with z | ⟨j, z, e⟩
    · exact .inl z
    · exact .inr ⟨j, ow j z, e⟩
  refine ⟨E.j0, E.j, E.r, by rw [List.length_append, List.length_append, E.len]; rfl, fun i j a b e => E.inj i j (ow i a) (ow j b) e, fun i a => E.new i (ow i a), fun i s e => ?_, fun g hg => (E.gh g hg).keep (fun _ _ e => e) fun a xs n e => ⟨fun z => n (av _ z), e⟩⟩
  by_cases hi : i < G.length
  · rw [List.getElem?_append_left hi] at e
    have hs : (σ ++ [some v])[i]? = σ[i]? := List.getElem?_append_left (by rw [← E.len]; exact hi)
    exact (E.sl i s e).to hs (by rcases own_or (s := s) with z | z; exact .inl z; exact .inr ⟨rfl, rfl⟩) (fun _ _ e => e) fun a xs n e => ⟨fun z => n (av _ z), e⟩
  · rw [List.getElem?_append_right (by omega)] at e
    have i0 : i - G.length = 0 := by
      have := (List.getElem?_eq_some_iff.mp e).1
      simp only [List.length_singleton] at this
      omega
    rw [i0] at e
    cases e
    refine ⟨v, ?_, Has.keep (fun _ _ e => e) (fun a xs n e => ⟨fun z => n (av _ z), e⟩) d v h⟩
    rw [List.getElem?_append_right (by rw [← E.len]; omega), ← E.len, i0]
    rfl
/-- the body's word, wherever it is called from -/
def LamB (X : Cx) (C : Cn) (G : List SD) (scope : Scope) (t : Str) (body : Expr) (k : Nat) (d : D) (K : D → Prop) : Prop := ∀ A outer s H f c', Room k (A.deeper (lEnv X scope s.heap.objs.size f c')) → W (lamC X A outer s H scope t f c') C (G ++ [.val d]) body K
section
variable {X : Cx} {pins : List (Addr × Obj)} {σ : L2.St} {H : Hp} {s : Shared} {C : Cn} {G : List SD} {A : Nat → Addr}
theorem r_of_extN {M : Md} {H H1 : Hp} (e : LamX.ExtN H H1) : R M H H1 := ⟨fun a o n _ h => e a o h n, fun a z => by
  cases q : H a with
  | none => exact .inl q
  | some o =>
    by_cases t : ∃ ps, o = .tbl ps
    · obtain ⟨ps, rfl⟩ := t
      exact .inr ⟨ps, q⟩
    · have q2 := e a o q (fun ps z => t ⟨ps, z⟩)
      rcases z with z | ⟨ps, z⟩
      · rw [q2] at z; cases z
      · rw [q2] at z; cases z; exact absurd ⟨ps, rfl⟩ t⟩
theorem j_of_extN {M : Md} {H H1 : Hp} (j : J M H) (e : LamX.ExtN H H1) (t : LamX.Tabs M.T H1) : J M H1 := ⟨fun b c z => by
  obtain ⟨x, s, k, cs, e1, a1, a2, a3, a4, e2, a5⟩ := j.1 b c z
  exact ⟨x, s, k, cs, e _ _ e1 (fun _ z => by cases z), a1, a2, a3, a4, e _ _ e2 (fun _ z => by cases z), a5⟩, t⟩
/-- x(lambda t: body): the def's body is shown with a rule for the call of what it got -/
theorem w_lam {K : D → Prop} {x a t : Str} {g c Pt : Addr} {k : Nat} {pg : Arguments} {bg : List Stmt} {sg : Scope} {dV kV doc pm cdv ct oc : Value} {an od : Option Addr} {osl : Array (Option Value)} {Ng : List Str}
    {params : Arguments} {body : Expr} {scope : Scope} {p lamp pos : Pos} (hmx : X.mg x = some (.ref g)) (hkp : PySem.W.keepIn X.K (.ref g) = true)
    (lk : X.K.lookup g = some ⟨oc, od, .func (PySem.W.fnOf x x pg bg sg dV kV doc pm an cdv ct), osl⟩) (hcog : PySem.W.codeIn X.K cdv x = true) (hb : L2.Binds X.K (PySem.W.fnOf x x pg bg sg dV kV doc pm an cdv ct) [a] []) (Sg : FnScope Ng [a] sg) (hNg : Ng[0]? = some a) (hva : Vis sg a)
    (TB : LamX.TabB X.base X.mg c Pt) (hcode : X.env.code = .ref c) (hmT : (Pt, X.env.qual ++ "<lambda>") ∈ C.M.T) (hu : ∀ p ∈ C.M.T, p.1 = Pt → p.2 = X.env.qual ++ "<lambda>") (hr : Room (k + 2) X.A) (L : LamOk X.env.scope scope X.N t) (hdef : defaultsOf params X.env = ([], []))
    (hbind : ∀ (q : Str) (cl : List (Str × Addr)) (pm cv ctv : Value) (u : Value), bindArgs (PySem.W.kla_fn "<lambda>" q params body scope cl pm cv ctv) ⟨[u], []⟩ = pure [(t, u)])
    (hG : ∀ (cdg : Value) (s' : Shared) (H1 : Hp) (f : Addr),
      (∀ (Gf : List SD) (e : Expr) (p1 p2 : Pos) (K' : D → Prop) (he : starEach [e] (envOfC x sg s'.heap.objs.size g cdg) = (false, eval e (envOfC x sg s'.heap.objs.size g cdg)) :: starEach [] (envOfC x sg s'.heap.objs.size g cdg)), Gf[0]? = some (.val (.ref f)) → W (cxOf CX0 X.prog X.w X.K X.mg X.base Ng x sg g cdg X.A X.stack s' H1 E0).nox ⟨C.M, H1, []⟩ Gf e (fun d => imm d = true ∧ LamB X C G scope t body k d fun r => imm r = true ∧ K' r) →
        W (cxOf CX0 X.prog X.w X.K X.mg X.base Ng x sg g cdg X.A X.stack s' H1 E0).nox ⟨C.M, H1, []⟩ Gf (.Call (.Name a p1) [e] [] p2) K') →
      WSs (cxOf CX0 X.prog X.w X.K X.mg X.base Ng x sg g cdg X.A X.stack s' H1 E0).nox ⟨C.M, H1, []⟩ (startD Ng [.ref f]) bg { nx := fun _ => False, rt := fun d => imm d = true ∧ K d })
    (hg : Gl X x := by rfl) (hdb : (x == ("__debug__" : Str)) = false := by decide) (hd : (a == ("__debug__" : Str)) = false := by decide) (hcd : (a == ("__classdict__" : Str)) = false := by decide) :
    W X C G (.Call (.Name x p) [.Lambda params body scope lamp] [] pos) K := fun A σ H E Q q pins s I => by
  have openC : ∀ y ∈ scope.names, y.2 = .free → ∃ c, X.env.cells.lookup y.1 = some c := fun y hy e => by
    rcases L.fre y hy e with a1 | a1
    · exact I.ok.has _ (.inl a1)
    · exact I.ok.has _ (.inr a1)
  refine wpAny_Call_Name_kw (ld_glob I hg hmx ?_ hdb)
  refine PySem.W.callWith_K (h₀ := X.base) I.ok.mod.kin hkp ?_ (by rfl) (by rfl)
  show wpAny _ _ (spliced ((false, eval (.Lambda params body scope lamp) X.env) :: backTo pos (starEach [] X.env))) _ _ s
  refine Calls.spliced_cons (LamX.lam_make2 I TB hcode hmT hu E.j.2 hdef openC fun f c' pm' ctv H1 s' Ia eN T1 hf hfn hfr hco => ?_)
  refine Calls.spliced_nil ⟨Ia.kIn, ?_⟩
  have r1 : R C.M H H1 := r_of_extN eN
  have j1 : J C.M H1 := j_of_extN E.j eN T1
  have E1 := E.go j1 r1
  have rcA : codeAny (model X.prog X.w) X.A (.call (.ref g) ⟨[.ref f], []⟩) (CR CX0 X.stack X.prog X.w H1 s' Q E0) s' := by
    refine LamX.run_ofS (N := Ng) (ps := [a]) (us := [.ref f]) (vs := [.ref f]) lk hcog Sg hr Ia.env0 (hb s' [.ref f] Ia.kIn rfl) (.cons rfl .nil) rfl fun hr' => ?_
    refine ⟨_, (pwSs (X := (cxOf CX0 X.prog X.w X.K X.mg X.base Ng x sg g cdv X.A X.stack s' H1 E0).nox)).nox, ?_⟩
    refine hG cdv s' H1 f (fun Gf e p1 p2 K' he gf h => ?_) _ _ H1 (start_est j1 ⟨.ref f, [], rfl, rfl, rfl⟩) _ ⟨fun _ _ _ _ _ z => z.elim, fun d v H' j' r' hd hkp => ?_, fun _ _ _ _ _ z => z.elim, fun _ _ _ _ _ z => z.elim⟩
    · -- the call of what it got
      intro Af σf Hf Ef Qf qf pinsf sf If
      obtain ⟨v0, e0, hv0⟩ := Ef.sl 0 _ gf
      obtain rfl : v0 = .ref f := hv0
      refine wpAny_Call_Name_kw (thn ((pe_var (X := (cxOf CX0 X.prog X.w X.K X.mg X.base Ng x sg g cdv X.A X.stack s' H1 E0).nox) (pos := p1) (i := 0) hNg hva hd hcd).run pinsf sf σf Hf (fun v H2 => v = .ref f ∧ H2 = Hf) If ⟨.ref f, e0, rfl, rfl⟩) fun u s1 ⟨v, H2, I2, rr, q1⟩ => ?_)
      obtain ⟨ev, eH⟩ := q1
      subst ev
      rw [eH] at I2
      obtain rfl : u = Value.ref f := rr
      have fat : ∀ {s2 : Shared} {σ2 : L2.St} {H2 : Hp}, Inv (cxOf CX0 X.prog X.w X.K X.mg X.base Ng x sg g cdv X.A X.stack s' H1 E0).nox pinsf σ2 H2 s2 → s2.heap.get? f = some (PySem.W.kla_obj "<lambda>" (X.env.qual ++ "<lambda>") params body scope (cloFrom X.env.cells scope.names []) pm' c' ctv) := fun I3 => I3.base.keep f _ hf hfn hfr (fun z => nomatch (show f ∈ ([] : List Addr) from z))
      refine PySem.W.callWith_F ⟨_, _, _, _, fat I2⟩ ?_ he rfl
      refine thn (pwA.run p2 pinsf s1 σf Hf _ I2 (wa_cons (KA := fun ds => ∃ d, ds = [d] ∧ imm d = true ∧ LamB X C G scope t body k d fun r => imm r = true ∧ K' r) (W.mono h fun d kk => wa_nil ⟨d, rfl, kk⟩) he Af σf Hf Ef _ fun ds vs H3 r3 j3 hh k3 => (⟨ds, r3, j3, hh, k3⟩ : ∃ ds, R C.M Hf H3 ∧ J C.M H3 ∧ HasL (Av C.M Gf Af) H3 ds vs ∧ ∃ d, ds = [d] ∧ imm d = true ∧ LamB X C G scope t body k d fun r => imm r = true ∧ K' r))) fun us s3 ⟨vs, H3, I3, rv, ds, r3, j3, hh, d, ed, dim, lb⟩ => ?_
      subst ed
      obtain ⟨v, rfl, hv⟩ := HasL.one' hh
      obtain ⟨u, rfl, ru⟩ := rv.one
      have of3 := fat I3
      refine ⟨⟨_, _, _, _, of3⟩, ?_⟩
      have unch : Un (frs X.stack) [] H1 H3 s'.heap s3.heap := I3.base
      have rf : R C.M H1 H3 := Ef.r.trans r3
      have hco3 : H3 c' = some (LamX.CodeO c' (X.env.qual ++ "<lambda>")) := rf.kp c' _ (fun ps => LamX.codeO_ne ps) (fun z => by
        obtain ⟨xs, q⟩ := j1.bagL z
        rw [hco] at q
        unfold LamX.CodeO at q
        cases q) hco
      obtain ⟨⟨oc, vs, tt, hoc, hdc, hvc⟩, _, _⟩ := I3.hok c' _ hco3
      have E3 : Est C G A σ H3 := E1.go j3 rf
      have hv3 : Has (Av C.M G A) H3 d v := Has.immK (fun _ _ e => e) d v dim hv
      have rc2 : codeAny (model X.prog X.w) (X.A.deeper (envOfC x sg s'.heap.objs.size g cdv)) (.call (.ref f) ⟨[u], []⟩) (CR CX0 (envOfC x sg s'.heap.objs.size g cdv :: X.stack) X.prog X.w H3 s3 Qf E0) s3 := by
        refine PySem.W.kla_callFunE hr'.depth of3 rfl L.nco L.ngen rfl ⟨c', oc, vs, tt, rfl, hoc, hdc, hvc⟩ ?_
        rw [hbind]
        refine wpAny_pure (wpAny_newFunctionEnv (fun y hy => (L.own y hy).1) (fun y hy => ?_) (fun h₁ hns hsb => ⟨I3.nolimit.fresh _ hsb, ?_⟩) L.kind)
        · obtain rfl : y = (t, u) := by simpa using hy
          exact L.par
        show codeAny _ _ (.expr body (lEnv X scope s3.heap.objs.size f c')) _ _
        have kp : ∀ b o, s3.heap.get? b = some o → h₁.get? b = some o := fun b o e => hsb.extBut b o (Nat.ne_of_lt (Heap.lt_size e)) (Heap.get?_push_of_some _ e)
        have J0 := lam_begin (tk := s3.toks + ([(t, u)] : List (Str × Value)).length) (f := f) (c' := c') Ia L I3.env0 hr'.hd unch hns kp ru
        refine PySem.W.kla_codeExpr (wpAny_mono (lb _ _ s3 H3 f c' (hr'.deeper _) A (σ ++ [some v]) H3 (E3.snoc hv3) (fun v' H4 => ∃ d', R C.M H3 H4 ∧ J C.M H4 ∧ Has (AvM C.M) H4 d' v' ∧ imm d' = true ∧ K' d') (fun d' v' H4 r4 j4 h4 k4 => ⟨d', r4, j4, toM h4, k4⟩) [] _ J0) (fun v' s'' hz9 => ?_) fun e s'' hz9 => hz9.elim)
        obtain ⟨wv, H', J', rv', d', r4, j4, h4, im4, k4⟩ := hz9
        exact ⟨wv, H', J'.os, J'.bare, J'.base, J'.hok, rv', qf d' wv H' (r3.trans r4) j4 (Has.immK (fun _ _ e => e) d' wv im4 h4) k4⟩
      refine wpAny_call (codeAny_mono rc2 fun r s'' hz9 => ?_)
      cases r with
      | error e => exact (show False from hz9).elim
      | ok fl =>
        cases fl with
        | ret u => exact I3.after hz9
        | next => exact False.elim hz9
        | brk => exact False.elim hz9
        | cont => exact False.elim hz9
    · exact q d v H' (r1.trans r') j' (Has.immK (fun _ _ e => e) d v hkp.1 hd) hkp.2
  refine wpAny_call (codeAny_mono rcA fun r s2 hz9 => ?_)
  cases r with
  | error e => exact (show False from hz9).elim
  | ok fl =>
    cases fl with
    | ret u => exact Ia.after hz9
    | next => exact False.elim hz9
    | brk => exact False.elim hz9
    | cont => exact False.elim hz9
end
end FL
end
section
set_option Elab.async false
set_option linter.all false
set_option maxRecDepth 100000
set_option pp.maxSteps 600
/-! zip of a list and a tuple, enumerate of a tuple. -/
namespace FL
open PySem PySem.Spec PyProof.Rows L2
/-- list at a, tuple at b, side by side -/
def ItM (K : PySem.W.Frag) (a b : Addr) : It :=
  ⟨fun i H => ∃ (xs ys : List V) (x y : V), SqL K H a xs ∧ SqT K H b ys ∧ xs[i]? = some x ∧ ys[i]? = some y, fun i H v H' => ∃ T x y, v = .ref T ∧ H T = none ∧ H' = upd H T (.tup [x, y]) ∧ (∀ xs, SqL K H a xs → xs[i]? = some x) ∧ ∀ ys, SqT K H b ys → ys[i]? = some y,
    fun i H => ∃ xs ys : List V, SqL K H a xs ∧ SqT K H b ys ∧ xs.length = ys.length ∧ xs.length = i⟩
theorem turn_M {P : Program} {w : World} {K : PySem.W.Frag} {es : List Expr} {kk : Nat} {tpos : Pos} {a b z TI TO j1 j2 : Addr} (S : ZipSep2 z TI TO j1 j2 [j1, a] [j2, b]) :
    Turn P w K (.Tuple es kk tpos) (ItM K a b) [z, TI, TO, j1, j2] z (fun i h => IsZip h z TI TO .none ∧ IsTupOf2 h TI (.ref j1) (.ref j2) ∧ (∃ x y, IsTupOf2 h TO x y) ∧ h.IsListIter j1 a i ∧ h.IsTupleIter j2 b i) where
  mem := List.mem_cons_self
  obj := fun i h stt c hc => by
    obtain ⟨g1, g2, ⟨x, y, g3⟩, ⟨o1, e1, _, d1⟩, ⟨o2, e2, _, d2⟩⟩ := stt
    rcases List.mem_cons.mp hc with rfl | hc; exact ⟨_, g1, fun v q => nomatch q⟩
    rcases List.mem_cons.mp hc with rfl | hc; exact ⟨_, g2, fun v q => nomatch q⟩
    rcases List.mem_cons.mp hc with rfl | hc; exact ⟨_, g3, fun v q => nomatch q⟩
    rcases List.mem_cons.mp hc with rfl | hc; exact ⟨o1, e1, fun v q => by rw [d1] at q; cases q⟩
    obtain rfl := List.mem_singleton.mp hc; exact ⟨o2, e2, fun v q => by rw [d2] at q; cases q⟩
  keep := fun i h h' stt k => by
    obtain ⟨g1, g2, ⟨x, y, g3⟩, g4, g5⟩ := stt
    exact ⟨k _ (by simp) _ g1, k _ (by simp) _ g2, ⟨x, y, k _ (by simp) _ g3⟩, g4.at fun o q => k _ (by simp) o q, g5.at fun o q => k _ (by simp) o q⟩
  item := by
    intro X eP eW eK hc i pins s σ H E I hf stt hg; subst eP eW eK
    obtain ⟨g1, g2, ⟨x0, y0, g3⟩, g4, g5⟩ := stt
    obtain ⟨xs, ys, x, y, qx, qy, hx, hy⟩ := hg
    obtain ⟨us, rv, p, _⟩ := I.list qx; obtain ⟨vs, rw', p2, _⟩ := I.tuple qy
    obtain ⟨u, hat, ru⟩ := rv.get hx; obtain ⟨v, hv, rv2⟩ := rw'.get hy
    have zl : z < s.heap.objs.size := Heap.lt_size g1
    have hh : X.A.in1.handled = none := I.ok.hd hc
    have na : a ≠ j1 := fun e => by
      obtain ⟨o, e1, c1, _⟩ := id g4; obtain ⟨o2, e2, c2, _⟩ := p.isList; rw [e, e1] at e2; cases e2; rw [c1] at c2; injection c2 with c3; exact absurd c3 (by decide)
    have nb : b ≠ j2 := fun e => by
      obtain ⟨o, e1, c1, _⟩ := id g5; obtain ⟨o2, e2, c2, _⟩ := id p2; rw [e, e1] at e2; cases e2; rw [c1] at c2; injection c2 with c3; exact absurd c3 (by decide)
    refine wpAny_pyNext_zipD2_item S (.list hh j1 a na us.toArray) (.tuple hh j2 b nb vs.toArray) g1 g2 g3 ⟨g4, p.isList⟩ ⟨g5, p2⟩ (by have := (List.getElem?_eq_some_iff.mp hat).1; simpa using this) (by have := (List.getElem?_eq_some_iff.mp hv).1; simpa using this) fun x1 x2 h' tk m1 m2 z' TO' s1 s2 hT hsz hk => ?_
    have ex : x1 = u := by rw [show us.toArray[i]? = some u by simpa using hat] at m1; exact (Option.some.inj m1).symm
    have ey : x2 = v := by rw [show vs.toArray[i]? = some v by simpa using hv] at m2; exact (Option.some.inj m2).symm
    subst ex ey
    refine ⟨_, rfl, wpAny_letOwnedTupleGo_zip (s := { s with heap := h', toks := tk }) z' fun h'' z'' sb => ?_⟩
    have hT2 := (sb.2 _ (Nat.ne_of_gt zl)).trans hT
    have kk : ∀ c o, c ∉ [z, TI, TO, j1, j2] → s.heap.get? c = some o → h''.get? c = some o := fun c o hb q => (sb.2 c fun e => hb (by simp [e])).trans (hk c o (fun e => hb (by simp [e])) (fun e => hb (by simp [e])) (fun e => hb (by simp [e])) (fun e => hb (by simp [e])) q)
    have I1 : Inv X pins σ (upd H s.heap.objs.size (.tup [x, y])) { s with heap := h'', toks := tk } := I.turnedNew (ch := [z, TI, TO, j1, j2]) kk hf (Nat.le_refl _) ⟨by show 2 ≤ sizeLine; decide, [x1, x2], .cons ru (.cons rv2 .nil), ⟨_, hT2, rfl, _, rfl⟩⟩
    refine ⟨.ref s.heap.objs.size, _, I1, rfl, ⟨_, x, y, rfl, I.hok.fresh (Nat.le_refl _), rfl, fun l hl => by rw [I.list_inj hl qx]; exact hx, fun l hl => by rw [I.tuple_inj hl qy]; exact hy⟩, ⟨z'', ?_, ⟨x1, x2, ?_⟩, ?_, ?_⟩, fun c hcm => ?_⟩
    · exact (sb.2 _ S.TIz).trans (hk _ _ S.TIz S.TITO S.TIi1 S.TIi2 g2)
    · exact (sb.2 _ S.TOz).trans TO'
    · exact s1.1.at fun o q => (sb.2 _ S.zi1.symm).trans q
    · exact s2.1.at fun o q => (sb.2 _ S.zi2.symm).trans q
    · have lt : c < s.heap.objs.size := by
        rcases List.mem_cons.mp hcm with rfl | hcm; exact zl
        rcases List.mem_cons.mp hcm with rfl | hcm; exact Heap.lt_size g2
        rcases List.mem_cons.mp hcm with rfl | hcm; exact Heap.lt_size g3
        rcases List.mem_cons.mp hcm with rfl | hcm; obtain ⟨_, e1, _⟩ := g4; exact Heap.lt_size e1
        obtain rfl := List.mem_singleton.mp hcm; obtain ⟨_, e1, _⟩ := g5; exact Heap.lt_size e1
      rw [upd_ne (Nat.ne_of_lt lt)]; exact (hf c hcm).1
  done := by
    intro X eP eW eK hc i pins s σ H E I hf stt hg; subst eP eW eK
    obtain ⟨g1, g2, ⟨x0, y0, g3⟩, g4, g5⟩ := stt
    obtain ⟨xs, ys, qx, qy, l1, l2⟩ := hg
    obtain ⟨us, rv, p, _⟩ := I.list qx; obtain ⟨vs, rw', p2, _⟩ := I.tuple qy
    have e1 := rv.length; have e2 := rw'.length
    have hh : X.A.in1.handled = none := I.ok.hd hc
    have na : a ≠ j1 := fun e => by
      obtain ⟨o, e1, c1, _⟩ := id g4; obtain ⟨o2, e2, c2, _⟩ := p.isList; rw [e, e1] at e2; cases e2; rw [c1] at c2; injection c2 with c3; exact absurd c3 (by decide)
    have nb : b ≠ j2 := fun e => by
      obtain ⟨o, e1, c1, _⟩ := id g5; obtain ⟨o2, e2, c2, _⟩ := id p2; rw [e, e1] at e2; cases e2; rw [c1] at c2; injection c2 with c3; exact absurd c3 (by decide)
    exact wpAny_pyNext_zipD2_end S (.list hh j1 a na us.toArray) (.tuple hh j2 b nb vs.toArray) g1 g2 g3 ⟨g4, p.isList⟩ ⟨g5, p2⟩ (by simp; omega) (by simp; omega) (.inl (by simp; omega)) fun h' tk hk => ⟨rfl, I.turnedL (t' := tk) (ch := [z, TI, TO, j1, j2]) (fun c o hb q => hk c o (fun e => hb (by simp [e])) (fun e => hb (by simp [e])) (fun e => hb (by simp [e])) (fun e => hb (by simp [e])) q) hf⟩
  self := fun A i s Q E stt h => wpAny_pyIter_zip stt.1 h
def iM (K : PySem.W.Frag) (ta : TA) : TI := fun σ H R => ta σ H fun vs H1 => ∃ a b xs ys, vs = [.ref a, .ref b] ∧ SqL K H1 a xs ∧ SqT K H1 b ys ∧ R (ItM K a b) H1
theorem pi_M {X : Cx} {e e2 : Expr} {ta : TA} {p pos tpos : Pos} {es : List Expr} {kk : Nat} (hg : Gl X "zip") (hm : X.mg "zip" = none) (ha : PA X [e, e2] ta) (hs : starEach [e, e2] X.env = (false, eval e X.env) :: starEach [e2] X.env := by rfl) (hpl : (backTo pos (starEach [e2] X.env)).any (·.1) = false := by rfl) :
    PI X (.Tuple es kk tpos) (.Call (.Name "zip" p) [e, e2] [] pos) (iM X.K ta) := by
  refine ⟨fun pins s σ H R I h => Call_ (ld_blt I hg hm PyProof.Rows.boot_zip (PyProof.Rows.callWith_type1 (thn (ha.run pos pins s σ H _ I h) fun us s1 ⟨vs, H1, I1, r1, a, b, xs, ys, ev, qx, qy, q⟩ => ?_) hs hpl))⟩
  subst ev
  obtain ⟨r, rr⟩ : ∃ u u2, us = [u, u2] ∧ RelV (.ref a) u ∧ RelV (.ref b) u2 := by
    cases r1 with | cons r rr => cases rr with | cons r' rr => cases rr; exact ⟨_, _, rfl, r, r'⟩
  obtain ⟨u2, rfl, r1, r2⟩ := rr
  cases r1; cases r2
  obtain ⟨us, rv, p1, _⟩ := I1.list qx; obtain ⟨vs, rw', p2, _⟩ := I1.tuple qy
  have ltA : a < s1.heap.objs.size := p1.lt
  have ltB : b < s1.heap.objs.size := by obtain ⟨_, e, _⟩ := id p2; exact Heap.lt_size e
  refine zip_begins2 (begins_list a us.toArray) (begins_tuple b vs.toArray) p1.isList p2 fun h' hz hTI hTO h1 h2 hsz hk => wpAny_pyIter_zip hz ?_
  have Ib : Inv X pins σ H1 { s1 with heap := h' } := I1.kept (t' := s1.toks) hk
  refine ⟨s1.heap.objs.size + 4, [s1.heap.objs.size + 4, s1.heap.objs.size + 2, s1.heap.objs.size + 3, s1.heap.objs.size, s1.heap.objs.size + 1], _, _, H1, rfl, Ib, turn_M (zip_sep2 (fp1 := [a]) (fp2 := [b]) (by simpa using ltA) (by simpa using ltB)), ⟨hz, hTI, ⟨_, _, hTO⟩, ⟨_, h1, rfl, rfl⟩, ⟨_, h2, rfl, rfl⟩⟩, fun c hcm => ?_, q⟩
  have leC : s1.heap.objs.size ≤ c := by
    rcases List.mem_cons.mp hcm with rfl | hcm; exact Nat.le_add_right _ _
    rcases List.mem_cons.mp hcm with rfl | hcm; exact Nat.le_add_right _ _
    rcases List.mem_cons.mp hcm with rfl | hcm; exact Nat.le_add_right _ _
    rcases List.mem_cons.mp hcm with rfl | hcm; exact Nat.le_refl _
    obtain rfl := List.mem_singleton.mp hcm; exact Nat.le_add_right _ _
  exact I1.fpOk leC (I1.hok.fresh leC)
/-! enumerate of a tuple -/
def ItE (K : PySem.W.Frag) (a : Addr) : It :=
  ⟨fun i H => ∃ (xs : List V) (x : V), SqT K H a xs ∧ xs[i]? = some x, fun i H v H' => ∃ T x, v = .ref T ∧ H T = none ∧ H' = upd H T (.tup [.int (i : Nat), x]) ∧ ∀ xs, SqT K H a xs → xs[i]? = some x, fun i H => ∃ xs : List V, SqT K H a xs ∧ xs.length = i⟩
theorem turn_E {P : Program} {w : World} {K : PySem.W.Frag} {es : List Expr} {kk : Nat} {tpos : Pos} (a e j : Addr) (ne : e ≠ a) :
    Turn P w K (.Tuple es kk tpos) (ItE K a) [e, j] e (fun i h => (∃ old, IsEnum h e j ((i : Nat) : Int) old) ∧ h.IsTupleIter j a i ∧ e ≠ j) where
  mem := List.mem_cons_self
  obj := fun i h stt c hc => by
    obtain ⟨⟨old, g1⟩, ⟨o2, e2, _, d2⟩, _⟩ := stt
    rcases List.mem_cons.mp hc with rfl | hc; exact ⟨_, g1, fun v q => nomatch q⟩
    obtain rfl := List.mem_singleton.mp hc; exact ⟨o2, e2, fun v q => by rw [d2] at q; cases q⟩
  keep := fun i h h' stt k => by
    obtain ⟨⟨old, g1⟩, g4, g5⟩ := stt
    exact ⟨⟨old, k _ (by simp) _ g1⟩, g4.at fun o q => k _ (by simp) o q, g5⟩
  item := by
    intro X eP eW eK hc i pins s σ H E I hf stt hg; subst eP eW eK
    obtain ⟨⟨old, g1⟩, g4, g5⟩ := stt
    obtain ⟨xs, x, qx, hx⟩ := hg
    obtain ⟨us, rv, p, _⟩ := I.tuple qx
    obtain ⟨u, hat, ru⟩ := rv.get hx
    have zl : e < s.heap.objs.size := Heap.lt_size g1
    have hh : X.A.in1.handled = none := I.ok.hd hc
    have na : a ≠ j := fun q => by
      obtain ⟨o, e1, c1, _⟩ := id g4; obtain ⟨o2, e2, c2, _⟩ := id p; rw [q, e1] at e2; cases e2; rw [c1] at c2; injection c2 with c3; exact absurd c3 (by decide)
    refine wpAny_pyNext_enum_itemD (.tuple hh j a na us.toArray) g1 ⟨g4, p⟩ (by have := (List.getElem?_eq_some_iff.mp hat).1; simpa using this) g5 (by simp [g5, ne]) fun x1 h' tk m1 ho s1 hT hsz hk => ?_
    have ex : x1 = u := by rw [show us.toArray[i]? = some u by simpa using hat] at m1; exact (Option.some.inj m1).symm
    subst ex
    refine ⟨_, rfl, wpAny_letOwnedTupleGo_enum (s := { s with heap := h', toks := tk + 1 }) ho fun h'' z'' sb => ?_⟩
    have hT2 := (sb.2 _ (Nat.ne_of_gt zl)).trans hT
    have kk : ∀ c o, c ∉ [e, j] → s.heap.get? c = some o → h''.get? c = some o := fun c o hb q => (sb.2 c fun e => hb (by simp [e])).trans (hk c o (fun e => hb (by simp [e])) (fun e => hb (by simp [e])) q)
    have I1 : Inv X pins σ (upd H s.heap.objs.size (.tup [.int (i : Nat), x])) { s with heap := h'', toks := tk + 1 } := I.turnedNew (ch := [e, j]) kk hf (Nat.le_refl _) ⟨by show 2 ≤ sizeLine; decide, [.int i tk, x1], .cons ⟨_, rfl⟩ (.cons ru .nil), ⟨_, hT2, rfl, _, rfl⟩⟩
    refine ⟨.ref s.heap.objs.size, _, I1, rfl, ⟨_, x, rfl, I.hok.fresh (Nat.le_refl _), rfl, fun l hl => by rw [I.tuple_inj hl qx]; exact hx⟩, ⟨⟨x1, ?_⟩, ?_, g5⟩, fun c hcm => ?_⟩
    · rw [show ((i + 1 : Nat) : Int) = (i : Int) + 1 by omega]; exact z''
    · exact s1.1.at fun o q => (sb.2 _ g5.symm).trans q
    · have lt : c < s.heap.objs.size := by
        rcases List.mem_cons.mp hcm with rfl | hcm; exact zl
        obtain rfl := List.mem_singleton.mp hcm; obtain ⟨_, e1, _⟩ := g4; exact Heap.lt_size e1
      rw [upd_ne (Nat.ne_of_lt lt)]; exact (hf c hcm).1
  done := by
    intro X eP eW eK hc i pins s σ H E I hf stt hg; subst eP eW eK
    obtain ⟨⟨old, g1⟩, g4, g5⟩ := stt
    obtain ⟨xs, qx, l1⟩ := hg
    obtain ⟨us, rv, p, _⟩ := I.tuple qx
    have e1 := rv.length
    have hh : X.A.in1.handled = none := I.ok.hd hc
    have na : a ≠ j := fun q => by
      obtain ⟨o, e1, c1, _⟩ := id g4; obtain ⟨o2, e2, c2, _⟩ := id p; rw [q, e1] at e2; cases e2; rw [c1] at c2; injection c2 with c3; exact absurd c3 (by decide)
    refine wpAny_pyNext_enum_endD (.tuple hh j a na us.toArray) g1 ⟨by rw [show us.toArray.size = i by simp; omega]; exact g4, p⟩ fun h' hk => ⟨rfl, I.turnedL (t' := s.toks) (ch := [e, j]) (fun c o hb q => hk c o (fun z => hb (by simp [z])) q) hf⟩
  self := fun A i s Q E stt h => let ⟨⟨_, he⟩, _⟩ := stt; wpAny_pyIter_enum he h
set_option maxHeartbeats 1000000 in
theorem enum_new {v : Value} {o : Obj} {H : Heap → Prop} (B : Begins v o H) :
    Meets (Builtin.«enumerate.__new__» ⟨[.type "enumerate", v], []⟩) (fun _ R s => H s.heap ∧ R (.ok (.ret (.ref (s.heap.push o).objs.size))) { s with heap := (s.heap.push o).push { cls := .type "enumerate", data := .fields #[.none, .bool false, .ref s.heap.objs.size, rawInt 0, .none, .none] } }) :=
  .of_wp fun prog w A R s0 hin => by
    obtain ⟨hea, g, d, tk, ost⟩ := s0
    have hsub := sub_enumerate; have h1 := hin.1; have h := hin.2
    have q1 : ∀ {A' : Around} {E Q : Value → Shared → Prop}, Q (.ref hea.objs.size) ⟨hea.push o, g, d, tk, ost⟩ → wpAny (model prog w) A' (pyIter v) Q E ⟨hea, g, d, tk, ost⟩ := fun q => B.iter prog w _ _ ⟨hea, g, d, tk, ost⟩ _ h1 q
    wp_walk using q1
    refine wpAny_stack_any fun stt => wpAny_pure ?_
    split
    · rename_i c _ _ _ _ _
      cases (c == Value.type "enumerate") <;> (wp_walk using q1; exact ⟨_, rfl, h⟩)
    · wp_walk using q1; exact ⟨_, rfl, h⟩
theorem enum_tuple {prog : Program} {w : World} {A : Around} {E : Value → Shared → Prop} {s : Shared} {l : Addr} {items : Array Value} {Q : Value → Shared → Prop} (hL : s.heap.IsTuple l items)
    (h : ∀ h', IsEnum h' (s.heap.objs.size + 1) s.heap.objs.size 0 .none → h'.IsTupleIter s.heap.objs.size l 0 → (∀ b o, s.heap.get? b = some o → h'.get? b = some o) → Q (.ref (s.heap.objs.size + 1)) { s with heap := h' }) : wpAny (model prog w) A (call (.type "enumerate") [.ref l]) Q E s := by
  have B := begins_tuple l items
  have hz : (s.heap.push { cls := .type "tuple_iterator", data := .fields #[.ref l, .int 0 0] }).objs.size = s.heap.objs.size + 1 := Heap.size_push ..
  have hd := Heap.get?_push_size (s.heap.push { cls := .type "tuple_iterator", data := .fields #[.ref l, .int 0 0] }) (o := { cls := .type "enumerate", data := .fields #[.none, .bool false, .ref s.heap.objs.size, rawInt 0, .none, .none] }) rfl
  rw [hz] at hd
  refine callType_new F.called_enumerate (by decide) (F.typeCall_enumerate_1 _) (F.newCall_enumerate_1 _) (fun obj => F.args_object_init_2 obj _) F.entry_enumerate_new (enum_new B) ⟨hL, ?_⟩
  rw [hz]
  exact ⟨⟨_, hd, rfl⟩, h _ hd ⟨_, Heap.get?_push_of_some _ (Heap.get?_push_size _ rfl), rfl, rfl⟩ fun b o x => Heap.get?_push_of_some _ (Heap.get?_push_of_some _ x)⟩
def iE (K : PySem.W.Frag) (ta : TA) : TI := fun σ H R => ta σ H fun vs H1 => ∃ a xs, vs = [.ref a] ∧ SqT K H1 a xs ∧ R (ItE K a) H1
theorem pi_E {X : Cx} {e : Expr} {ta : TA} {p pos tpos : Pos} {es : List Expr} {kk : Nat} (hg : Gl X "enumerate") (hm : X.mg "enumerate" = none) (ha : PA X [e] ta) (hs : starEach [e] X.env = [(false, eval e X.env)] := by rfl) : PI X (.Tuple es kk tpos) (.Call (.Name "enumerate" p) [e] [] pos) (iE X.K ta) := by
  refine ⟨fun pins s σ H R I h => Call_ (ld_blt I hg hm boot_enumerate (PyProof.Rows.callWith_type1 (thn (ha.run pos pins s σ H _ I h) fun us s1 ⟨vs, H1, I1, r1, a, xs, ev, qx, q⟩ => ?_) hs rfl))⟩
  subst ev
  obtain ⟨u, rfl, ru⟩ := r1.one
  obtain rfl : u = .ref a := ru
  obtain ⟨us, rv, p1, _⟩ := I1.tuple qx
  have ltA : a < s1.heap.objs.size := by obtain ⟨_, e, _⟩ := id p1; exact Heap.lt_size e
  refine enum_tuple p1 ?_
  intro h' hen hit hk
  refine wpAny_pyIter_enum hen ?_
  have Ib : Inv X pins σ H1 { s1 with heap := h' } := I1.kept (t' := s1.toks) hk
  refine ⟨s1.heap.objs.size + 1, [s1.heap.objs.size + 1, s1.heap.objs.size], _, _, H1, rfl, Ib, turn_E a (s1.heap.objs.size + 1) s1.heap.objs.size (Nat.ne_of_gt (Nat.lt_succ_of_lt ltA)), ⟨⟨.none, hen⟩, hit, Nat.succ_ne_self _⟩, fun c hcm => ?_, q⟩
  have leC : s1.heap.objs.size ≤ c := by
    rcases List.mem_cons.mp hcm with rfl | hcm; exact Nat.le_add_right _ _
    obtain rfl := List.mem_singleton.mp hcm; exact Nat.le_refl _
  exact I1.fpOk leC (I1.hok.fresh leC)
/-! by data -/
section
variable {X : Cx} {C : Cn} {G : List SD} {KI : List Gh → Nat → (Nat → D) → Prop} {a b e tg : Expr} {es : List Expr} {pos p tpos : Pos} {kk : Nat}
theorem wi_zipLT (hm : X.mg "zip" = none) (h : W X C G a fun da => W X C G b fun db => imm db = true ∧ ∃ ds fs, da = .lst ds ∧ db = .tup fs ∧ ds.length = fs.length ∧ ∀ Zs, KI Zs ds.length (fun i => .tup [nthD ds i, nthD fs i])) (hg : Gl X "zip" := by rfl) (hs : starEach [a, b] X.env = (false, eval a X.env) :: starEach [b] X.env := by rfl) (hs2 : starEach [b] X.env = (false, eval b X.env) :: starEach [] X.env := by rfl) (hpl : (backTo pos (starEach [b] X.env)).any (·.1) = false := by rfl) :
    WI X C G (.Tuple es kk tpos) (.Call (.Name "zip" p) [a, b] [] pos) KI := fun A σ H E Rr q => by
  refine toI (pi_M hg hm (pa_cons pwE (pa_cons pwE pa_nil hs2) hs) hs hpl) (h A σ H E _ fun d v H1 r1 j1 hh k1 => ?_)
  refine k1 A σ H1 (E.go j1 r1) _ fun d2 v2 H2 r2 j2 hh2 k => ?_
  obtain ⟨im, ds, fs, rfl, rfl, hl, k⟩ := k
  obtain ⟨l, xs, rfl, na, ha, hL⟩ : ∃ p xs, v = .ref p ∧ ¬ _ ∧ H2 p = some (.lst xs) ∧ HasL _ H2 ds xs := hh.go j1 r2
  obtain ⟨t, ys, rfl, ht, hT⟩ : ∃ p xs, v2 = .ref p ∧ H2 p = some (.tup xs) ∧ HasL _ H2 fs xs := hh2
  refine ⟨l, t, xs, ys, rfl, SqL.of ha, SqT.of ht, q _ _ _ [.l l ds xs, .t t fs ys] H2 (r1.trans r2) j2 (fun g hg => ?_) (fun G' A' σ' H' i E' => ?_) (k _)⟩
  · rcases List.mem_cons.mp hg with rfl | hg
    · exact ⟨na, ha, hL⟩
    · obtain rfl := List.mem_singleton.mp hg
      exact ⟨ht, hT⟩
  · obtain ⟨_, ha', hL'⟩ : GhOk _ H' (.l l ds xs) := E'.ghZ (by simp)
    obtain ⟨ht', hT'⟩ : GhOk _ H' (.t t fs ys) := E'.ghZ (by simp)
    have l1 := HasL.len hL'
    have l2 := HasL.len hT'
    refine ⟨fun hi => ⟨⟨xs, ys, xs[i], ys[i], SqL.of ha', SqT.of ht', List.getElem?_eq_getElem (by omega), List.getElem?_eq_getElem (by omega)⟩, fun x H3 y => ?_⟩, fun hi => ?_⟩
    · obtain ⟨T, z, z2, rfl, hTn, rfl, y, y2⟩ := y
      obtain ⟨w, e1, hz⟩ := HasL.get hL' (nthD_some hi)
      obtain ⟨w2, e2, hz2⟩ := HasL.get hT' (nthD_some (show i < fs.length by omega))
      rw [y xs (SqL.of ha')] at e1
      rw [y2 ys (SqT.of ht')] at e2
      cases e1
      cases e2
      have r2 : R C.M H' (upd H' T (.tup [z, z2])) := R.new hTn
      exact ⟨r2, E'.j.new hTn, T, _, rfl, upd_same, z, _, rfl, hz.go (C := C.ghs _) E'.j r2, z2, _, rfl, hz2.go (C := C.ghs _) E'.j r2, rfl⟩
    · exact ⟨xs, ys, SqL.of ha', SqT.of ht', by omega, by omega⟩
theorem wi_enumT (hm : X.mg "enumerate" = none) (h : W X C G e fun d => ∃ ds, d = .tup ds ∧ ∀ Zs, KI Zs ds.length (fun i => .tup [.int i, nthD ds i])) (hg : Gl X "enumerate" := by rfl) (hs : starEach [e] X.env = [(false, eval e X.env)] := by rfl) (hs' : starEach [e] X.env = (false, eval e X.env) :: starEach [] X.env := by rfl) : WI X C G (.Tuple es kk tpos) (.Call (.Name "enumerate" p) [e] [] pos) KI := fun A σ H E Rr q => by
  refine toI (pi_E hg hm (pa_cons pwE pa_nil hs') hs) (h A σ H E _ fun d v H2 r j hh k => ?_)
  obtain ⟨ds, rfl, k⟩ := k
  obtain ⟨a, xs, rfl, ha, hL⟩ : ∃ p xs, v = .ref p ∧ H2 p = some (.tup xs) ∧ HasL _ H2 ds xs := hh
  refine ⟨a, xs, rfl, SqT.of ha, q _ _ _ [.t a ds xs] H2 r j (fun g hg => ?_) (fun G' A' σ' H' i E' => ?_) (k _)⟩
  · obtain rfl := List.mem_singleton.mp hg
    exact ⟨ha, hL⟩
  · obtain ⟨ha', hL'⟩ : GhOk _ H' (.t a ds xs) := E'.ghZ (by simp)
    have hl := HasL.len hL'
    refine ⟨fun hi => ⟨⟨xs, xs[i], SqT.of ha', List.getElem?_eq_getElem (by omega)⟩, fun x H3 y => ?_⟩, fun hi => ⟨xs, SqT.of ha', by omega⟩⟩
    obtain ⟨T, z, rfl, hT, rfl, y⟩ := y
    obtain ⟨w, e1, hz⟩ := HasL.get hL' (nthD_some hi)
    rw [y xs (SqT.of ha')] at e1
    cases e1
    have r2 : R C.M H' (upd H' T (.tup [.int (i : Nat), z])) := R.new hT
    exact ⟨r2, E'.j.new hT, T, _, rfl, upd_same, .int (i : Nat), _, rfl, hasI, z, _, rfl, hz.go (C := C.ghs _) E'.j r2, rfl⟩
theorem wi_zipT (hm : X.mg "zip" = none) (h : W X C G a fun da => W X C G b fun db => imm da = true ∧ imm db = true ∧ ∃ ds fs, da = .tup ds ∧ db = .tup fs ∧ ds.length = fs.length ∧ ∀ Zs, KI Zs ds.length (fun i => .tup [nthD ds i, nthD fs i])) (hg : Gl X "zip" := by rfl) (hs : starEach [a, b] X.env = (false, eval a X.env) :: starEach [b] X.env := by rfl) (hs2 : starEach [b] X.env = (false, eval b X.env) :: starEach [] X.env := by rfl) (hpl : (backTo pos (starEach [b] X.env)).any (·.1) = false := by rfl) :
    WI X C G (.Tuple es kk tpos) (.Call (.Name "zip" p) [a, b] [] pos) KI := fun A σ H E Rr q => by
  refine toI (RZ.pi_zipA hg hm (pa_cons pwE (pa_cons pwE pa_nil hs2) hs) hs hpl) (h A σ H E _ fun d v H1 r1 j1 hh k1 => ?_)
  refine k1 A σ H1 (E.go j1 r1) _ fun d2 v2 H2 r2 j2 hh2 k => ?_
  obtain ⟨im, im2, ds, fs, rfl, rfl, hl, k⟩ := k
  obtain ⟨l, xs, rfl, ha, hL⟩ : ∃ p xs, v = .ref p ∧ H2 p = some (.tup xs) ∧ HasL _ H2 ds xs := hh.go j1 r2
  obtain ⟨t, ys, rfl, ht, hT⟩ : ∃ p xs, v2 = .ref p ∧ H2 p = some (.tup xs) ∧ HasL _ H2 fs xs := hh2
  refine ⟨l, t, xs, ys, rfl, .inr ⟨SqT.of ha, SqT.of ht, q _ _ _ [.t l ds xs, .t t fs ys] H2 (r1.trans r2) j2 (fun g hg => ?_) (fun G' A' σ' H' i E' => ?_) (k _)⟩⟩
  · rcases List.mem_cons.mp hg with rfl | hg
    · exact ⟨ha, hL⟩
    · obtain rfl := List.mem_singleton.mp hg
      exact ⟨ht, hT⟩
  · obtain ⟨ha', hL'⟩ : GhOk _ H' (.t l ds xs) := E'.ghZ (by simp)
    obtain ⟨ht', hT'⟩ : GhOk _ H' (.t t fs ys) := E'.ghZ (by simp)
    have l1 := HasL.len hL'
    have l2 := HasL.len hT'
    refine ⟨fun hi => ⟨⟨xs, ys, xs[i], ys[i], SqT.of ha', SqT.of ht', List.getElem?_eq_getElem (by omega), List.getElem?_eq_getElem (by omega)⟩, fun x H3 y => ?_⟩, fun hi => ?_⟩
    · obtain ⟨T, z, z2, rfl, hTn, rfl, y, y2⟩ := y
      obtain ⟨w, e1, hz⟩ := HasL.get hL' (nthD_some hi)
      obtain ⟨w2, e2, hz2⟩ := HasL.get hT' (nthD_some (show i < fs.length by omega))
      rw [y xs (SqT.of ha')] at e1
      rw [y2 ys (SqT.of ht')] at e2
      cases e1
      cases e2
      have r2 : R C.M H' (upd H' T (.tup [z, z2])) := R.new hTn
      exact ⟨r2, E'.j.new hTn, T, _, rfl, upd_same, z, _, rfl, hz.go (C := C.ghs _) E'.j r2, z2, _, rfl, hz2.go (C := C.ghs _) E'.j r2, rfl⟩
    · exact ⟨xs, ys, SqT.of ha', SqT.of ht', .inl (by omega)⟩
end
end FL
end
section
set_option Elab.async false
set_option linter.all false
set_option maxRecDepth 100000
/-! The text by places (printed by gentext.py). -/
namespace FL
open PySem PySem.Spec PyProof.Rows L2
def topS (i : Nat) : Stmt := PySem.Challenge.pw_flutterheld_k27_whole_told_at_once.main.body.getD i (.Pass ⟨0, 0, 0, 0⟩)
abbrev s_common : Stmt := topS 1
abbrev n_common : List Str := ["one", "other"]
theorem sc_common : FnScope n_common ["one", "other"] (defScope s_common) := ⟨rfl, rfl, rfl, by decide +kernel, rfl, by decide +kernel, by decide +kernel⟩
-- common: [(0, 'one'), (1, 'other')] cells []
abbrev s_reduced : Stmt := topS 2
abbrev n_reduced : List Str := ["n", "d", "shared"]
theorem sc_reduced : FnScope n_reduced ["n", "d"] (defScope s_reduced) := ⟨rfl, rfl, rfl, by decide +kernel, rfl, by decide +kernel, by decide +kernel⟩
-- reduced: [(0, 'n'), (1, 'd'), (2, 'shared')] cells []
abbrev s_whole : Stmt := topS 3
abbrev n_whole : List Str := ["n"]
theorem sc_whole : FnScope n_whole ["n"] (defScope s_whole) := ⟨rfl, rfl, rfl, by decide +kernel, rfl, by decide +kernel, by decide +kernel⟩
-- whole: [(0, 'n')] cells []
abbrev s_added : Stmt := topS 4
abbrev n_added : List Str := ["one", "other"]
theorem sc_added : FnScope n_added ["one", "other"] (defScope s_added) := ⟨rfl, rfl, rfl, by decide +kernel, rfl, by decide +kernel, by decide +kernel⟩
-- added: [(0, 'one'), (1, 'other')] cells []
abbrev s_times : Stmt := topS 5
abbrev n_times : List Str := ["one", "other"]
theorem sc_times : FnScope n_times ["one", "other"] (defScope s_times) := ⟨rfl, rfl, rfl, by decide +kernel, rfl, by decide +kernel, by decide +kernel⟩
-- times: [(0, 'one'), (1, 'other')] cells []
abbrev s_over : Stmt := topS 6
abbrev n_over : List Str := ["one", "other"]
theorem sc_over : FnScope n_over ["one", "other"] (defScope s_over) := ⟨rfl, rfl, rfl, by decide +kernel, rfl, by decide +kernel, by decide +kernel⟩
-- over: [(0, 'one'), (1, 'other')] cells []
abbrev s_compared : Stmt := topS 7
abbrev n_compared : List Str := ["one", "other", "mine", "its"]
theorem sc_compared : FnScope n_compared ["one", "other"] (defScope s_compared) := ⟨rfl, rfl, rfl, by decide +kernel, rfl, by decide +kernel, by decide +kernel⟩
-- compared: [(0, 'one'), (1, 'other'), (2, 'mine'), (3, 'its')] cells []
abbrev s_least_of : Stmt := topS 8
abbrev n_least_of : List Str := ["some", "found", "one"]
theorem sc_least_of : FnScope n_least_of ["some"] (defScope s_least_of) := ⟨rfl, rfl, rfl, by decide +kernel, rfl, by decide +kernel, by decide +kernel⟩
-- least_of: [(0, 'some'), (1, 'found'), (2, 'one')] cells []
abbrev s_floor_of : Stmt := topS 9
abbrev n_floor_of : List Str := ["one"]
theorem sc_floor_of : FnScope n_floor_of ["one"] (defScope s_floor_of) := ⟨rfl, rfl, rfl, by decide +kernel, rfl, by decide +kernel, by decide +kernel⟩
-- floor_of: [(0, 'one')] cells []
abbrev s_phi : Stmt := topS 11
abbrev n_phi : List Str := ["bounds", "t", "cell", "drift", "shift", "lo", "most", "lead"]
theorem sc_phi : FnScope n_phi ["bounds", "t"] (defScope s_phi) := ⟨rfl, rfl, rfl, by decide +kernel, rfl, by decide +kernel, by decide +kernel⟩
-- phi: [(0, 'bounds'), (1, 't'), (2, 'cell'), (3, 'drift'), (4, 'shift'), (5, 'lo'), (6, 'most'), (7, 'lead')] cells []
abbrev s_first_that : Stmt := topS 12
abbrev n_first_that : List Str := ["tells", "high", "low", "middle"]
theorem sc_first_that : FnScope n_first_that ["tells"] (defScope s_first_that) := ⟨rfl, rfl, rfl, by decide +kernel, rfl, by decide +kernel, by decide +kernel⟩
-- first_that: [(0, 'tells'), (1, 'high'), (2, 'low'), (3, 'middle')] cells []
abbrev s_turn : Stmt := topS 13
abbrev n_turn : List Str := ["bounds", "cell", "drift", "shift", "lo", "most", "lead", "need"]
theorem sc_turn : FnScope n_turn ["bounds"] (defScope s_turn) := ⟨rfl, rfl, rfl, by decide +kernel, rfl, by decide +kernel, by decide +kernel⟩
-- turn: [(0, 'bounds'), (1, 'cell'), (2, 'drift'), (3, 'shift'), (4, 'lo'), (5, 'most'), (6, 'lead'), (7, 'need')] cells ['drift', 'need']
abbrev s_can_be_sum : Stmt := topS 14
abbrev n_can_be_sum : List Str := ["bounds", "cells", "lo", "most"]
theorem sc_can_be_sum : FnScope n_can_be_sum ["bounds", "cells"] (defScope s_can_be_sum) := ⟨rfl, rfl, rfl, by decide +kernel, rfl, by decide +kernel, by decide +kernel⟩
-- can_be_sum: [(0, 'bounds'), (1, 'cells'), (2, 'lo'), (3, 'most')] cells []
abbrev s_leaps : Stmt := topS 15
abbrev n_leaps : List Str := ["bounds", "most", "over_turn", "found", "cells"]
theorem sc_leaps : FnScope n_leaps ["bounds"] (defScope s_leaps) := ⟨rfl, rfl, rfl, by decide +kernel, rfl, by decide +kernel, by decide +kernel⟩
-- leaps: [(0, 'bounds'), (1, 'most'), (2, 'over_turn'), (3, 'found'), (4, 'cells')] cells []
abbrev s_worst : Stmt := topS 16
abbrev n_worst : List Str := ["bounds", "most", "lead", "over_turn", "found", "best", "one"]
theorem sc_worst : FnScope n_worst ["bounds"] (defScope s_worst) := ⟨rfl, rfl, rfl, by decide +kernel, rfl, by decide +kernel, by decide +kernel⟩
-- worst: [(0, 'bounds'), (1, 'most'), (2, 'lead'), (3, 'over_turn'), (4, 'found'), (5, 'best'), (6, 'one')] cells []
abbrev s_pull : Stmt := topS 17
abbrev n_pull : List Str := ["bounds"]
theorem sc_pull : FnScope n_pull ["bounds"] (defScope s_pull) := ⟨rfl, rfl, rfl, by decide +kernel, rfl, by decide +kernel, by decide +kernel⟩
-- pull: [(0, 'bounds')] cells []
abbrev s_needed : Stmt := topS 19
abbrev n_needed : List Str := ["bounds", "run", "cell", "drift", "shift", "lo", "most", "lead", "pulled"]
theorem sc_needed : FnScope n_needed ["bounds", "run"] (defScope s_needed) := ⟨rfl, rfl, rfl, by decide +kernel, rfl, by decide +kernel, by decide +kernel⟩
-- needed: [(0, 'bounds'), (1, 'run'), (2, 'cell'), (3, 'drift'), (4, 'shift'), (5, 'lo'), (6, 'most'), (7, 'lead'), (8, 'pulled')] cells []
abbrev s_least_cell : Stmt := topS 20
abbrev n_least_cell : List Str := ["drift", "shift", "lo", "most", "lead"]
theorem sc_least_cell : FnScope n_least_cell ["drift", "shift", "lo", "most", "lead"] (defScope s_least_cell) := ⟨rfl, rfl, rfl, by decide +kernel, rfl, by decide +kernel, by decide +kernel⟩
-- least_cell: [(0, 'drift'), (1, 'shift'), (2, 'lo'), (3, 'most'), (4, 'lead')] cells []
abbrev s_law_bag : Stmt := topS 22
abbrev n_law_bag : List Str := ["_law_script", "_law_cell"]
theorem sc_law_bag : FnScope n_law_bag ["_law_script"] (defScope s_law_bag) := ⟨rfl, rfl, rfl, by decide +kernel, rfl, by decide +kernel, by decide +kernel⟩
-- _law_bag: [(0, '_law_script'), (1, '_law_cell')] cells []
abbrev s_law_take : Stmt := topS 23
abbrev n_law_take : List Str := ["_law_bag_here", "_law_many_here", "_law_cell", "_law_stirred", "_law_value", "_law_begin", "_law_second"]
theorem sc_law_take : FnScope n_law_take ["_law_bag_here", "_law_many_here"] (defScope s_law_take) := ⟨rfl, rfl, rfl, by decide +kernel, rfl, by decide +kernel, by decide +kernel⟩
-- _law_take: [(0, '_law_bag_here'), (1, '_law_many_here'), (2, '_law_cell'), (3, '_law_stirred'), (4, '_law_value'), (5, '_law_begin'), (6, '_law_second')] cells []
abbrev s_law_some : Stmt := topS 24
abbrev n_law_some : List Str := ["_law_bag_here", "_law_things"]
theorem sc_law_some : FnScope n_law_some ["_law_bag_here", "_law_things"] (defScope s_law_some) := ⟨rfl, rfl, rfl, by decide +kernel, rfl, by decide +kernel, by decide +kernel⟩
-- _law_some: [(0, '_law_bag_here'), (1, '_law_things')] cells []
abbrev s_law_common : Stmt := topS 25
abbrev n_law_common : List Str := ["_law_one", "_law_other"]
theorem sc_law_common : FnScope n_law_common ["_law_one", "_law_other"] (defScope s_law_common) := ⟨rfl, rfl, rfl, by decide +kernel, rfl, by decide +kernel, by decide +kernel⟩
-- _law_common: [(0, '_law_one'), (1, '_law_other')] cells []
abbrev s_law_part : Stmt := topS 26
abbrev n_law_part : List Str := ["_law_n", "_law_d", "_law_shared"]
theorem sc_law_part : FnScope n_law_part ["_law_n", "_law_d"] (defScope s_law_part) := ⟨rfl, rfl, rfl, by decide +kernel, rfl, by decide +kernel, by decide +kernel⟩
-- _law_part: [(0, '_law_n'), (1, '_law_d'), (2, '_law_shared')] cells []
abbrev s_law_add : Stmt := topS 27
abbrev n_law_add : List Str := ["_law_one", "_law_other"]
theorem sc_law_add : FnScope n_law_add ["_law_one", "_law_other"] (defScope s_law_add) := ⟨rfl, rfl, rfl, by decide +kernel, rfl, by decide +kernel, by decide +kernel⟩
-- _law_add: [(0, '_law_one'), (1, '_law_other')] cells []
abbrev s_law_less : Stmt := topS 28
abbrev n_law_less : List Str := ["_law_one", "_law_other"]
theorem sc_law_less : FnScope n_law_less ["_law_one", "_law_other"] (defScope s_law_less) := ⟨rfl, rfl, rfl, by decide +kernel, rfl, by decide +kernel, by decide +kernel⟩
-- _law_less: [(0, '_law_one'), (1, '_law_other')] cells []
abbrev s_law_many : Stmt := topS 29
abbrev n_law_many : List Str := ["_law_one", "_law_many_here"]
theorem sc_law_many : FnScope n_law_many ["_law_one", "_law_many_here"] (defScope s_law_many) := ⟨rfl, rfl, rfl, by decide +kernel, rfl, by decide +kernel, by decide +kernel⟩
-- _law_many: [(0, '_law_one'), (1, '_law_many_here')] cells []
abbrev s_law_is_below : Stmt := topS 30
abbrev n_law_is_below : List Str := ["_law_one", "_law_other"]
theorem sc_law_is_below : FnScope n_law_is_below ["_law_one", "_law_other"] (defScope s_law_is_below) := ⟨rfl, rfl, rfl, by decide +kernel, rfl, by decide +kernel, by decide +kernel⟩
-- _law_is_below: [(0, '_law_one'), (1, '_law_other')] cells []
abbrev s_law_sums : Stmt := topS 31
abbrev n_law_sums : List Str := ["_law_telling_here", "_law_found", "_law_cell"]
theorem sc_law_sums : FnScope n_law_sums ["_law_telling_here"] (defScope s_law_sums) := ⟨rfl, rfl, rfl, by decide +kernel, rfl, by decide +kernel, by decide +kernel⟩
-- _law_sums: [(0, '_law_telling_here'), (1, '_law_found'), (2, '_law_cell')] cells []
abbrev s_law_cells : Stmt := topS 32
abbrev n_law_cells : List Str := ["_law_row_here", "_law_found", "_law_run"]
theorem sc_law_cells : FnScope n_law_cells ["_law_row_here"] (defScope s_law_cells) := ⟨rfl, rfl, rfl, by decide +kernel, rfl, by decide +kernel, by decide +kernel⟩
-- _law_cells: [(0, '_law_row_here'), (1, '_law_found'), (2, '_law_run')] cells []
abbrev s_law_phi : Stmt := topS 33
abbrev n_law_phi : List Str := ["_law_bounds", "_law_t"]
theorem sc_law_phi : FnScope n_law_phi ["_law_bounds", "_law_t"] (defScope s_law_phi) := ⟨rfl, rfl, rfl, by decide +kernel, rfl, by decide +kernel, by decide +kernel⟩
-- _law_phi: [(0, '_law_bounds'), (1, '_law_t')] cells []
abbrev s_law_turn : Stmt := topS 34
abbrev n_law_turn : List Str := ["_law_bounds", "_law_need", "_law_step", "_law_low", "_law_high", "_law_middle"]
theorem sc_law_turn : FnScope n_law_turn ["_law_bounds"] (defScope s_law_turn) := ⟨rfl, rfl, rfl, by decide +kernel, rfl, by decide +kernel, by decide +kernel⟩
-- _law_turn: [(0, '_law_bounds'), (1, '_law_need'), (2, '_law_step'), (3, '_law_low'), (4, '_law_high'), (5, '_law_middle')] cells []
abbrev s_law_lead_strain : Stmt := topS 35
abbrev n_law_lead_strain : List Str := ["_law_bounds", "_law_cells_here", "_law_least", "_law_at", "_law_its"]
theorem sc_law_lead_strain : FnScope n_law_lead_strain ["_law_bounds", "_law_cells_here", "_law_least"] (defScope s_law_lead_strain) := ⟨rfl, rfl, rfl, by decide +kernel, rfl, by decide +kernel, by decide +kernel⟩
-- _law_lead_strain: [(0, '_law_bounds'), (1, '_law_cells_here'), (2, '_law_least'), (3, '_law_at'), (4, '_law_its')] cells []
abbrev s_law_pull : Stmt := topS 36
abbrev n_law_pull : List Str := ["_law_bounds", "_law_over", "_law_top", "_law_best", "_law_known", "_law_cells_here", "_law_its", "_law_run", "_law_ahead", "_law_least"]
theorem sc_law_pull : FnScope n_law_pull ["_law_bounds"] (defScope s_law_pull) := ⟨rfl, rfl, rfl, by decide +kernel, rfl, by decide +kernel, by decide +kernel⟩
-- _law_pull: [(0, '_law_bounds'), (1, '_law_over'), (2, '_law_top'), (3, '_law_best'), (4, '_law_known'), (5, '_law_cells_here'), (6, '_law_its'), (7, '_law_run'), (8, '_law_ahead'), (9, '_law_least')] cells []
abbrev s_law_far_pull : Stmt := topS 37
abbrev n_law_far_pull : List Str := ["_law_bounds", "_law_over", "_law_lo", "_law_most", "_law_found", "_law_cells_here", "_law_beyond", "_law_here", "_law_best", "_law_its"]
theorem sc_law_far_pull : FnScope n_law_far_pull ["_law_bounds", "_law_over"] (defScope s_law_far_pull) := ⟨rfl, rfl, rfl, by decide +kernel, rfl, by decide +kernel, by decide +kernel⟩
-- _law_far_pull: [(0, '_law_bounds'), (1, '_law_over'), (2, '_law_lo'), (3, '_law_most'), (4, '_law_found'), (5, '_law_cells_here'), (6, '_law_beyond'), (7, '_law_here'), (8, '_law_best'), (9, '_law_its')] cells []
abbrev s_law_needed : Stmt := topS 38
abbrev n_law_needed : List Str := ["_law_bounds", "_law_run", "_law_most", "_law_found"]
theorem sc_law_needed : FnScope n_law_needed ["_law_bounds", "_law_run", "_law_most"] (defScope s_law_needed) := ⟨rfl, rfl, rfl, by decide +kernel, rfl, by decide +kernel, by decide +kernel⟩
-- _law_needed: [(0, '_law_bounds'), (1, '_law_run'), (2, '_law_most'), (3, '_law_found')] cells []
abbrev s_law_margin : Stmt := topS 39
abbrev n_law_margin : List Str := ["_law_bounds", "_law_cells_here", "_law_run"]
theorem sc_law_margin : FnScope n_law_margin ["_law_bounds", "_law_cells_here", "_law_run"] (defScope s_law_margin) := ⟨rfl, rfl, rfl, by decide +kernel, rfl, by decide +kernel, by decide +kernel⟩
-- _law_margin: [(0, '_law_bounds'), (1, '_law_cells_here'), (2, '_law_run')] cells []
abbrev s_law_is_sure : Stmt := topS 40
abbrev n_law_is_sure : List Str := ["_law_bounds"]
theorem sc_law_is_sure : FnScope n_law_is_sure ["_law_bounds"] (defScope s_law_is_sure) := ⟨rfl, rfl, rfl, by decide +kernel, rfl, by decide +kernel, by decide +kernel⟩
-- _law_is_sure: [(0, '_law_bounds')] cells []
abbrev s_law_fraction : Stmt := topS 41
abbrev n_law_fraction : List Str := ["_law_bag_here", "_law_wide"]
theorem sc_law_fraction : FnScope n_law_fraction ["_law_bag_here", "_law_wide"] (defScope s_law_fraction) := ⟨rfl, rfl, rfl, by decide +kernel, rfl, by decide +kernel, by decide +kernel⟩
-- _law_fraction: [(0, '_law_bag_here'), (1, '_law_wide')] cells []
abbrev s_law_shape_of_bounds : Stmt := topS 42
abbrev n_law_shape_of_bounds : List Str := ["_law_bag_here", "_law_most", "_law_lo", "_law_wide", "_law_drift", "_law_shift"]
theorem sc_law_shape_of_bounds : FnScope n_law_shape_of_bounds ["_law_bag_here", "_law_most"] (defScope s_law_shape_of_bounds) := ⟨rfl, rfl, rfl, by decide +kernel, rfl, by decide +kernel, by decide +kernel⟩
-- _law_shape_of_bounds: [(0, '_law_bag_here'), (1, '_law_most'), (2, '_law_lo'), (3, '_law_wide'), (4, '_law_drift'), (5, '_law_shift')] cells []
abbrev s_law_row : Stmt := topS 43
abbrev n_law_row : List Str := ["_law_bag_here", "_law_bounds", "_law_runs", "_law_at"]
theorem sc_law_row : FnScope n_law_row ["_law_bag_here", "_law_bounds", "_law_runs"] (defScope s_law_row) := ⟨rfl, rfl, rfl, by decide +kernel, rfl, by decide +kernel, by decide +kernel⟩
-- _law_row: [(0, '_law_bag_here'), (1, '_law_bounds'), (2, '_law_runs'), (3, '_law_at')] cells ['_law_bag_here', '_law_bounds']
abbrev s_law_lead : Stmt := topS 44
abbrev n_law_lead : List Str := ["_law_bounds"]
theorem sc_law_lead : FnScope n_law_lead ["_law_bounds"] (defScope s_law_lead) := ⟨rfl, rfl, rfl, by decide +kernel, rfl, by decide +kernel, by decide +kernel⟩
-- _law_lead: [(0, '_law_bounds')] cells []
abbrev s_law_ride : Stmt := topS 45
abbrev n_law_ride : List Str := ["_law_bag_here", "_law_bounds", "_law_cells_here", "_law_found", "_law_way", "_law_cell", "_law_ahead", "_law_half", "_law_step", "_law_next_one"]
theorem sc_law_ride : FnScope n_law_ride ["_law_bag_here", "_law_bounds", "_law_cells_here"] (defScope s_law_ride) := ⟨rfl, rfl, rfl, by decide +kernel, rfl, by decide +kernel, by decide +kernel⟩
-- _law_ride: [(0, '_law_bag_here'), (1, '_law_bounds'), (2, '_law_cells_here'), (3, '_law_found'), (4, '_law_way'), (5, '_law_cell'), (6, '_law_ahead'), (7, '_law_half'), (8, '_law_step'), (9, '_law_next_one')] cells []
abbrev s_law_telling : Stmt := topS 46
abbrev n_law_telling : List Str := ["_law_bag_here", "_law_bounds", "_law_cells_here"]
theorem sc_law_telling : FnScope n_law_telling ["_law_bag_here", "_law_bounds", "_law_cells_here"] (defScope s_law_telling) := ⟨rfl, rfl, rfl, by decide +kernel, rfl, by decide +kernel, by decide +kernel⟩
-- _law_telling: [(0, '_law_bag_here'), (1, '_law_bounds'), (2, '_law_cells_here')] cells []
abbrev s_law_shifts : Stmt := topS 47
abbrev n_law_shifts : List Str := ["_law_bag_here", "_law_bounds", "_law_marks", "_law_shift", "_law_menu", "_law_mark"]
theorem sc_law_shifts : FnScope n_law_shifts ["_law_bag_here", "_law_bounds", "_law_marks"] (defScope s_law_shifts) := ⟨rfl, rfl, rfl, by decide +kernel, rfl, by decide +kernel, by decide +kernel⟩
-- _law_shifts: [(0, '_law_bag_here'), (1, '_law_bounds'), (2, '_law_marks'), (3, '_law_shift'), (4, '_law_menu'), (5, '_law_mark')] cells ['_law_bag_here', '_law_menu']
abbrev s_law_in_order : Stmt := topS 48
abbrev n_law_in_order : List Str := ["_law_some_here", "_law_found", "_law_one", "_law_at"]
theorem sc_law_in_order : FnScope n_law_in_order ["_law_some_here"] (defScope s_law_in_order) := ⟨rfl, rfl, rfl, by decide +kernel, rfl, by decide +kernel, by decide +kernel⟩
-- _law_in_order: [(0, '_law_some_here'), (1, '_law_found'), (2, '_law_one'), (3, '_law_at')] cells []
abbrev s_law_hearing : Stmt := topS 49
abbrev n_law_hearing : List Str := ["_law_telling_here", "_law_row_here", "_law_shifts_here", "_law_moments", "_law_cell", "_law_shift"]
theorem sc_law_hearing : FnScope n_law_hearing ["_law_telling_here", "_law_row_here", "_law_shifts_here"] (defScope s_law_hearing) := ⟨rfl, rfl, rfl, by decide +kernel, rfl, by decide +kernel, by decide +kernel⟩
-- _law_hearing: [(0, '_law_telling_here'), (1, '_law_row_here'), (2, '_law_shifts_here'), (3, '_law_moments'), (4, '_law_cell'), (5, '_law_shift')] cells ['_law_moments']
abbrev s_law_hull : Stmt := topS 50
abbrev n_law_hull : List Str := ["_law_points", "_law_line", "_law_found", "_law_way", "_law_half", "_law_x", "_law_y"]
theorem sc_law_hull : FnScope n_law_hull ["_law_points"] (defScope s_law_hull) := ⟨rfl, rfl, rfl, by decide +kernel, rfl, by decide +kernel, by decide +kernel⟩
-- _law_hull: [(0, '_law_points'), (1, '_law_line'), (2, '_law_found'), (3, '_law_way'), (4, '_law_half'), (5, '_law_x'), (6, '_law_y')] cells []
abbrev s_law_turns : Stmt := topS 51
abbrev n_law_turns : List Str := ["_law_one", "_law_two", "_law_three"]
theorem sc_law_turns : FnScope n_law_turns ["_law_one", "_law_two", "_law_three"] (defScope s_law_turns) := ⟨rfl, rfl, rfl, by decide +kernel, rfl, by decide +kernel, by decide +kernel⟩
-- _law_turns: [(0, '_law_one'), (1, '_law_two'), (2, '_law_three')] cells []
abbrev s_law_plain_shape : Stmt := topS 52
abbrev n_law_plain_shape : List Str := ["_law_many_here", "_law_points", "_law_shared", "_law_x", "_law_y"]
theorem sc_law_plain_shape : FnScope n_law_plain_shape ["_law_many_here", "_law_points"] (defScope s_law_plain_shape) := ⟨rfl, rfl, rfl, by decide +kernel, rfl, by decide +kernel, by decide +kernel⟩
-- _law_plain_shape: [(0, '_law_many_here'), (1, '_law_points'), (2, '_law_shared'), (3, '_law_x'), (4, '_law_y')] cells ['_law_shared']
abbrev s_law_cut : Stmt := topS 53
abbrev n_law_cut : List Str := ["_law_shape", "_law_place", "_law_bound", "_law_sign", "_law_many_here", "_law_points", "_law_sides", "_law_point", "_law_found", "_law_factor", "_law_at", "_law_side", "_law_next_side", "_law_size", "_law_sense", "_law_other", "_law_new", "_law_mine", "_law_its", "_law_x", "_law_y"]
theorem sc_law_cut : FnScope n_law_cut ["_law_shape", "_law_place", "_law_bound", "_law_sign"] (defScope s_law_cut) := ⟨rfl, rfl, rfl, by decide +kernel, rfl, by decide +kernel, by decide +kernel⟩
-- _law_cut: [(0, '_law_shape'), (1, '_law_place'), (2, '_law_bound'), (3, '_law_sign'), (4, '_law_many_here'), (5, '_law_points'), (6, '_law_sides'), (7, '_law_point'), (8, '_law_found'), (9, '_law_factor'), (10, '_law_at'), (11, '_law_side'), (12, '_law_next_side'), (13, '_law_size'), (14, '_law_sense'), (15, '_law_other'), (16, '_law_new'), (17, '_law_mine'), (18, '_law_its'), (19, '_law_x'), (20, '_law_y')] cells ['_law_place', '_law_bound', '_law_sign', '_law_many_here', '_law_factor', '_law_side', '_law_next_side', '_law_sense']
abbrev s_law_led_on : Stmt := topS 54
abbrev n_law_led_on : List Str := ["_law_bounds", "_law_shape", "_law_many_here", "_law_points", "_law_n", "_law_d", "_law_found", "_law_moment", "_law_long", "_law_its"]
theorem sc_law_led_on : FnScope n_law_led_on ["_law_bounds", "_law_shape"] (defScope s_law_led_on) := ⟨rfl, rfl, rfl, by decide +kernel, rfl, by decide +kernel, by decide +kernel⟩
-- _law_led_on: [(0, '_law_bounds'), (1, '_law_shape'), (2, '_law_many_here'), (3, '_law_points'), (4, '_law_n'), (5, '_law_d'), (6, '_law_found'), (7, '_law_moment'), (8, '_law_long'), (9, '_law_its')] cells []
abbrev s_law_begun : Stmt := topS 55
abbrev n_law_begun : List Str := ["_law_bounds", "_law_first", "_law_moment", "_law_low", "_law_high", "_law_longest", "_law_many_here", "_law_found", "_law_begin", "_law_long", "_law_here"]
theorem sc_law_begun : FnScope n_law_begun ["_law_bounds", "_law_first", "_law_moment"] (defScope s_law_begun) := ⟨rfl, rfl, rfl, by decide +kernel, rfl, by decide +kernel, by decide +kernel⟩
-- _law_begun: [(0, '_law_bounds'), (1, '_law_first'), (2, '_law_moment'), (3, '_law_low'), (4, '_law_high'), (5, '_law_longest'), (6, '_law_many_here'), (7, '_law_found'), (8, '_law_begin'), (9, '_law_long'), (10, '_law_here')] cells []
abbrev s_law_behind : Stmt := topS 56
abbrev n_law_behind : List Str := ["_law_bounds", "_law_shape", "_law_first", "_law_run", "_law_moment", "_law_step"]
theorem sc_law_behind : FnScope n_law_behind ["_law_bounds", "_law_shape", "_law_first", "_law_run", "_law_moment"] (defScope s_law_behind) := ⟨rfl, rfl, rfl, by decide +kernel, rfl, by decide +kernel, by decide +kernel⟩
-- _law_behind: [(0, '_law_bounds'), (1, '_law_shape'), (2, '_law_first'), (3, '_law_run'), (4, '_law_moment'), (5, '_law_step')] cells []
abbrev s_law : Stmt := topS 57
abbrev n_law : List Str := ["_law_script", "_law_bag_here", "_law_drift", "_law_shift", "_law_lo", "_law_most", "_law_lead_here", "_law_bounds", "_law_row_here", "_law_hearing_here", "_law_shape", "_law_at", "_law_run", "_law_other", "_law_its"]
theorem sc_law : FnScope n_law ["_law_script"] (defScope s_law) := ⟨rfl, rfl, rfl, by decide +kernel, rfl, by decide +kernel, by decide +kernel⟩
-- law: [(0, '_law_script'), (1, '_law_bag_here'), (2, '_law_drift'), (3, '_law_shift'), (4, '_law_lo'), (5, '_law_most'), (6, '_law_lead_here'), (7, '_law_bounds'), (8, '_law_row_here'), (9, '_law_hearing_here'), (10, '_law_shape'), (11, '_law_at'), (12, '_law_run'), (13, '_law_other'), (14, '_law_its')] cells []
end FL
end
section
set_option Elab.async false
set_option linter.all false
set_option maxRecDepth 100000
/-! The fractions' defs. -/
namespace FL
open PySem PySem.Spec PyProof.Rows L2 FM

theorem mulOk {i j : Int} {a b : Nat} (hi : Sm a i) (hj : Sm b j) (h : a + b ≤ 90000000 := by decide) : MulOk i j := by
  have h1 := hi.log
  have h2 := hj.log
  unfold MulOk
  omega
theorem divOk {i j : Int} {b : Nat} (h0 : 0 < j) (hj : Sm b j) (h : b < 9000 := by decide) : DivOk i j := ⟨h0, .inl (Nat.lt_of_le_of_lt hj.log h)⟩
theorem Sm.gcd {n d : Int} {k : Nat} (h : 0 < d) (hd : Sm k d) : Sm k (Int.gcd n d : Int) := hd.le (by
  have := Int.natAbs_dvd_natAbs.mpr (Int.gcd_dvd_right (a := n) (b := d))
  exact Nat.le_of_dvd (by omega) this)
/-- the built-ins are the built-ins -/
structure Bt (mg : Str → Option Value) : Prop where
  abs : mg "abs" = none
  int : mg "int" = none
  len : mg "len" = none
  max : mg "max" = none
  min : mg "min" = none
  range : mg "range" = none
  enumerate : mg "enumerate" = none
  zip : mg "zip" = none
  tuple : mg "tuple" = none
  set : mg "set" = none
  sorted : mg "sorted" = none
  sum : mg "sum" = none
structure Df (K : PySem.W.Frag) (mg : Str → Option Value) (x : Str) (st : Stmt) (ps : List Str) : Prop where
  ex : ∃ f fd, Fun K x x st f fd ∧ mg x = some (.ref f) ∧ Binds K fd ps []
section
variable {X : Cx} {C : Cn} {G : List SD} {K : D → Prop} {p1 p2 pos : Pos} {x : Str}
/-- the n, the d of a pair at a name -/
theorem w_p0 (i : Nat) {p : Int × Int} {j : Nat} (h : G[i]? = some (.val (pr p))) (k : K (.int p.1)) (hN : X.N[i]? = some x := by rfl) (hv : Vis X.env.scope x := by first | exact Or.inl rfl | exact Or.inr (Or.inl rfl) | exact Or.inr (Or.inr rfl)) (hd : (x == ("__debug__" : Str)) = false := by decide)
    (hcd : (x == ("__classdict__" : Str)) = false := by decide) : W X C G (.Subscript (.Name x p1) (.Constant (.int 0) j p2) pos) K :=
  w_ix (w_v i h (w_int ⟨_, _, _, .inl rfl, rfl, rfl, k⟩) hN hv hd hcd)
theorem w_p1 (i : Nat) {p : Int × Int} {j : Nat} (h : G[i]? = some (.val (pr p))) (k : K (.int p.2)) (hN : X.N[i]? = some x := by rfl) (hv : Vis X.env.scope x := by first | exact Or.inl rfl | exact Or.inr (Or.inl rfl) | exact Or.inr (Or.inr rfl)) (hd : (x == ("__debug__" : Str)) = false := by decide)
    (hcd : (x == ("__classdict__" : Str)) = false := by decide) : W X C G (.Subscript (.Name x p1) (.Constant (.int 1) j p2) pos) K :=
  w_ix (w_v i h (w_int ⟨_, _, _, .inl rfl, rfl, rfl, k⟩) hN hv hd hcd)
/-- a pair displayed -/
theorem w_pair {a b : Expr} {k : Nat} (h : W X C G a fun da => W X C G b fun db => ∃ i j, da = .int i ∧ db = .int j ∧ K (pr (i, j))) (he : starEach [a, b] X.env = (false, eval a X.env) :: starEach [b] X.env := by rfl) (he2 : starEach [b] X.env = (false, eval b X.env) :: starEach [] X.env := by rfl) : W X C G (.Tuple [a, b] k pos) K :=
  w_tup (wa_cons (h.mono fun da h2 => wa_cons (h2.mono fun db ⟨i, j, e1, e2, k⟩ => wa_nil ⟨(by show 2 ≤ 1000; decide), by rw [e1, e2]; exact k⟩) he2) he)
end
section
variable {P : Program} {w : World} {K : PySem.W.Frag} {mg : Str → Option Value} {base : Heap}
theorem fnD {x : Str} {st : Stmt} {N ps : List Str} {k : Nat} {F : Md → List D → (D → Prop) → Prop} (d : Df K mg x st ps) (S : FnScope N ps (defScope st)) (hlen : ∀ M ds Kp, F M ds Kp → ds.length = ps.length)
    (hb : ∀ f cdv A outer s H E M Kp ds, Room k (A.deeper (envOfC x (defScope st) s.heap.objs.size f cdv)) → F M ds Kp → WSs (XC P w K mg base N x st f cdv A outer s H E) ⟨M, H, []⟩ (startD N ds) (defBody st) { nx := fun _ => Kp .non, rt := Kp }) : FnR P w K mg base x (k + 1) F := by
  obtain ⟨f, fd, Fu, gm, bS⟩ := d.ex
  exact fn_W Fu S gm bS hlen fun cdv A outer s H E M Kp ds hr h => hb f cdv A outer s H E M Kp ds hr h

def F_common : Md → List D → (D → Prop) → Prop := fun M ds K => ∃ a b : Int, ds = [.int a, .int b] ∧ K (.int (Int.gcd a b))
theorem ok_common (B : Bt mg) (d : Df K mg "common" s_common ["one", "other"]) : FnR P w K mg base "common" 1 F_common := by
  refine fnD d sc_common (by rintro M ds Kp ⟨a, b, rfl, _⟩; rfl) fun f cdv A outer s H E M Kp ds hr h => ?_
  obtain ⟨a, b, rfl, k⟩ := h
  refine wss_cons (ws_par2 0 1 (w_abs B.abs (w_v 0 rfl ⟨_, rfl, w_abs B.abs (w_v 1 rfl ⟨_, rfl, ?_⟩)⟩)) sc_common.nd)
  refine wss_cons (ws_while (fun m G => ∃ x y : Int, G = [.val (.int x), .val (.int y)] ∧ 0 ≤ x ∧ 0 ≤ y ∧ m = y.toNat ∧ Int.gcd x y = Int.gcd a b) _ ⟨_, _, rfl, by omega, by omega, rfl, ?_⟩ ?_)
  · split <;> split <;> simp
  · rintro m G ⟨x, y, rfl, hx, hy, rfl, hg⟩
    refine wt_ne (w_v 1 rfl (w_int ⟨_, _, rfl, rfl, fun hz => ?_, fun hz => ?_⟩))
    · have hy0 : y ≠ 0 := by simpa using hz
      have := Int.emod_nonneg x hy0
      have := Int.emod_lt_of_pos x (show 0 < y by omega)
      refine wss_one (ws_par2 0 1 (w_v 1 rfl (w_mod (w_v 0 rfl (w_v 1 rfl ⟨_, _, rfl, rfl, by omega, ?_⟩)))) sc_common.nd)
      refine ⟨_, by omega, _, _, rfl, by omega, by omega, rfl, ?_⟩
      rw [← hg]; exact gcd_step hx (by omega)
    · have hy0 : y = 0 := by simpa using hz
      subst hy0
      refine wss_one (ws_ret (w_v 0 rfl ?_))
      have : (Int.gcd a b : Int) = x := by rw [← hg]; simp; omega
      rw [← this]; exact k
def F_red : Md → List D → (D → Prop) → Prop := fun M ds K => ∃ n d : Int, ds = [.int n, .int d] ∧ 0 < d ∧ Sm 8900 d ∧ K (pr (red n d))
theorem ok_reduced (B : Bt mg) (d : Df K mg "reduced" s_reduced ["n", "d"]) (g : FnR P w K mg base "common" 1 F_common) : FnR P w K mg base "reduced" 2 F_red := by
  refine fnD d sc_reduced (by rintro M ds Kp ⟨a, b, rfl, _⟩; rfl) fun f cdv A outer s H E M Kp ds hr h => ?_
  obtain ⟨n, d, rfl, hd, hs, k⟩ := h
  have hg := gcd_pos (n := n) hd
  have sg : Sm 8900 (Int.gcd n d : Int) := Sm.gcd hd hs
  refine wss_cons (ws_set 2 (w_call g hr (wa_cons (w_v 0 rfl (wa_cons (w_v 1 rfl (wa_nil ?_)))))) sc_reduced.nd)
  refine ⟨n, d, rfl, rfl, ?_⟩
  refine wss_cons (ws_if (wt_lt (w_v 1 rfl (w_int ⟨_, _, rfl, rfl, fun hz => ?_, fun _ => wss_nil ?_⟩))))
  · have := of_decide_eq_true hz; omega
  exact wss_one (ws_ret (w_pair (w_div (w_v 0 rfl (w_v 2 rfl ⟨_, _, rfl, rfl, divOk hg sg, w_div (w_v 1 rfl (w_v 2 rfl ⟨_, _, rfl, rfl, divOk hg sg, _, _, rfl, rfl, k⟩))⟩)))))
def F_whole : Md → List D → (D → Prop) → Prop := fun M ds K => ∃ n : Int, ds = [.int n] ∧ K (pr (n, 1))
theorem ok_whole (d : Df K mg "whole" s_whole ["n"]) : FnR P w K mg base "whole" 1 F_whole := by
  refine fnD d sc_whole (by rintro M ds Kp ⟨a, rfl, _⟩; rfl) fun f cdv A outer s H E M Kp ds hr h => ?_
  obtain ⟨n, rfl, k⟩ := h
  exact wss_one (ws_ret (w_pair (w_v 0 rfl (w_int ⟨_, _, rfl, rfl, k⟩))))
/-- two fractions in, one out -/
def F_two (f : Int × Int → Int × Int → Int × Int) : Md → List D → (D → Prop) → Prop := fun M ds K => ∃ p q : Int × Int, ds = [pr p, pr q] ∧ Bq 2000 p ∧ Bq 2000 q ∧ K (pr (f p q))
abbrev F_added := F_two add
abbrev F_times := F_two mul
theorem F_two.len {f : Int × Int → Int × Int → Int × Int} : ∀ M ds Kp, F_two f M ds Kp → ds.length = 2 := by rintro M ds Kp ⟨a, b, rfl, _⟩; rfl
theorem ok_added (d : Df K mg "added" s_added ["one", "other"]) (g : FnR P w K mg base "reduced" 2 F_red) : FnR P w K mg base "added" 3 F_added := by
  refine fnD d sc_added F_two.len fun f cdv A outer s H E M Kp ds hr h => ?_
  obtain ⟨p, q, rfl, hp, hq, k⟩ := h
  refine wss_one (ws_ret (w_call g hr (wa_cons (w_add (w_mul (w_p0 0 rfl (w_p1 1 rfl ⟨_, _, rfl, rfl, mulOk hp.n hq.d, w_mul (w_p0 1 rfl (w_p1 0 rfl ⟨_, _, rfl, rfl, mulOk hq.n hp.d, _, _, rfl, rfl, ?_⟩))⟩)))))))
  refine wa_cons (w_mul (w_p1 0 rfl (w_p1 1 rfl ⟨_, _, rfl, rfl, mulOk hp.d hq.d, wa_nil ⟨_, _, rfl, Int.mul_pos hp.pos hq.pos, (hp.d.mul hq.d).mono (by decide), rfl, k⟩⟩)))
theorem ok_times (d : Df K mg "times" s_times ["one", "other"]) (g : FnR P w K mg base "reduced" 2 F_red) : FnR P w K mg base "times" 3 F_times := by
  refine fnD d sc_times F_two.len fun f cdv A outer s H E M Kp ds hr h => ?_
  obtain ⟨p, q, rfl, hp, hq, k⟩ := h
  refine wss_one (ws_ret (w_call g hr (wa_cons (w_mul (w_p0 0 rfl (w_p0 1 rfl ⟨_, _, rfl, rfl, mulOk hp.n hq.n, ?_⟩))))))
  refine wa_cons (w_mul (w_p1 0 rfl (w_p1 1 rfl ⟨_, _, rfl, rfl, mulOk hp.d hq.d, wa_nil ⟨_, _, rfl, Int.mul_pos hp.pos hq.pos, (hp.d.mul hq.d).mono (by decide), rfl, k⟩⟩)))
def F_over : Md → List D → (D → Prop) → Prop := fun M ds K => ∃ p q : Int × Int, ds = [pr p, pr q] ∧ Bq 2000 p ∧ Bq 2000 q ∧ 0 < q.1 ∧ K (pr (dvd p q))
theorem ok_over (d : Df K mg "over" s_over ["one", "other"]) (g : FnR P w K mg base "reduced" 2 F_red) : FnR P w K mg base "over" 3 F_over := by
  refine fnD d sc_over (by rintro M ds Kp ⟨a, b, rfl, _⟩; rfl) fun f cdv A outer s H E M Kp ds hr h => ?_
  obtain ⟨p, q, rfl, hp, hq, h0, k⟩ := h
  refine wss_one (ws_ret (w_call g hr (wa_cons (w_mul (w_p0 0 rfl (w_p1 1 rfl ⟨_, _, rfl, rfl, mulOk hp.n hq.d, ?_⟩))))))
  refine wa_cons (w_mul (w_p1 0 rfl (w_p0 1 rfl ⟨_, _, rfl, rfl, mulOk hp.d hq.n, wa_nil ⟨_, _, rfl, Int.mul_pos hp.pos h0, (hp.d.mul hq.n).mono (by decide), rfl, k⟩⟩)))
def cmpF (p q : Int × Int) : Int := (if q.1 * p.2 < p.1 * q.2 then 1 else 0) - (if p.1 * q.2 < q.1 * p.2 then 1 else 0)
theorem cmpF_pos {p q : Int × Int} : 0 < cmpF p q ↔ q.1 * p.2 < p.1 * q.2 := by
  unfold cmpF; split <;> split <;> omega
theorem cmpF_neg {p q : Int × Int} : cmpF p q < 0 ↔ p.1 * q.2 < q.1 * p.2 := by
  unfold cmpF; split <;> split <;> omega
def F_compared : Md → List D → (D → Prop) → Prop := fun M ds K => ∃ p q : Int × Int, ds = [pr p, pr q] ∧ Bq 2000 p ∧ Bq 2000 q ∧ K (.int (cmpF p q))
theorem ok_compared (B : Bt mg) (d : Df K mg "compared" s_compared ["one", "other"]) : FnR P w K mg base "compared" 1 F_compared := by
  refine fnD d sc_compared (by rintro M ds Kp ⟨a, b, rfl, _⟩; rfl) fun f cdv A outer s H E M Kp ds hr h => ?_
  obtain ⟨p, q, rfl, hp, hq, k⟩ := h
  refine wss_cons (ws_par2 2 3 (w_mul (w_p0 0 rfl (w_p1 1 rfl ⟨_, _, rfl, rfl, mulOk hp.n hq.d, w_mul (w_p0 1 rfl (w_p1 0 rfl ⟨_, _, rfl, rfl, mulOk hq.n hp.d, ?_⟩))⟩))) sc_compared.nd)
  refine wss_one (ws_ret (w_sub (w_toint B.int (w_gt (w_v 2 rfl (w_v 3 rfl ⟨_, _, rfl, rfl, .inr ⟨_, rfl, ?_⟩⟩))))))
  refine w_toint B.int (w_lt (w_v 2 rfl (w_v 3 rfl ⟨_, _, rfl, rfl, .inr ⟨_, rfl, _, _, rfl, rfl, ?_⟩⟩)))
  unfold cmpF at k
  simpa using k
def F_least : Md → List D → (D → Prop) → Prop := fun M ds K => ∃ p q : Int × Int, ds = [.lst [pr p, pr q]] ∧ Bq 2000 p ∧ Bq 2000 q ∧ K (pr (if q.1 * p.2 < p.1 * q.2 then q else p))
theorem ok_least (d : Df K mg "least_of" s_least_of ["some"]) (g : FnR P w K mg base "compared" 1 F_compared) : FnR P w K mg base "least_of" 2 F_least := by
  refine fnD d sc_least_of (by rintro M ds Kp ⟨a, b, rfl, _⟩; rfl) fun f cdv A outer s H E M Kp ds hr h => ?_
  obtain ⟨p, q, rfl, hp, hq, k⟩ := h
  refine wss_cons (ws_set 1 (w_ix (w_v 0 rfl (w_int ⟨_, _, _, .inr rfl, rfl, rfl, ?_⟩))) sc_least_of.nd)
  refine wss_cons (ws_for (wi_list (w_v 0 rfl ⟨_, rfl, fun Zs => ⟨fun i G => ∃ o, G = [.val (.lst [pr p, pr q]), .val (pr (if i ≤ 1 then p else (if q.1 * p.2 < p.1 * q.2 then q else p))), o], ⟨_, rfl⟩, ?_, ?_⟩⟩)))
  · rintro i G hi ⟨o, rfl⟩
    refine wg_name 2 ?_ sc_least_of.nd
    refine wss_one (ws_set 1 ?_ sc_least_of.nd)
    have hi2 : i < 2 := hi
    have hcases : i = 0 ∨ i = 1 := by omega
    rcases hcases with rfl | rfl
    · refine w_if (wt_lt (w_call g hr (wa_cons (w_v 2 rfl (wa_cons (w_v 1 rfl (wa_nil ⟨p, p, rfl, hp, hp, rfl, w_int ⟨_, _, rfl, rfl, fun hz => ?_, fun hz => ?_⟩⟩)))))))
      · exact w_v 2 rfl ⟨_, rfl⟩
      · exact w_v 1 rfl ⟨_, rfl⟩
    · refine w_if (wt_lt (w_call g hr (wa_cons (w_v 2 rfl (wa_cons (w_v 1 rfl (wa_nil ⟨q, p, rfl, hq, hp, rfl, w_int ⟨_, _, rfl, rfl, fun hz => ?_, fun hz => ?_⟩⟩)))))))
      · refine w_v 2 rfl ⟨.val (pr q), ?_⟩
        have := cmpF_neg.mp (of_decide_eq_true hz)
        show _ = [_, SD.val (pr (if q.1 * p.2 < p.1 * q.2 then q else p)), _]
        rw [if_pos this]
        rfl
      · refine w_v 1 rfl ⟨.val (pr q), ?_⟩
        have : ¬ q.1 * p.2 < p.1 * q.2 := fun z => absurd (cmpF_neg.mpr z) (of_decide_eq_false hz)
        show _ = [_, SD.val (pr (if q.1 * p.2 < p.1 * q.2 then q else p)), _]
        rw [if_neg this]
        rfl
  · rintro G ⟨o, rfl⟩
    exact wss_one (ws_ret (w_v 1 rfl k))
def F_floor : Md → List D → (D → Prop) → Prop := fun M ds K => ∃ p : Int × Int, ds = [pr p] ∧ Bq 2000 p ∧ K (.int (p.1 / p.2))
theorem ok_floor (d : Df K mg "floor_of" s_floor_of ["one"]) : FnR P w K mg base "floor_of" 1 F_floor := by
  refine fnD d sc_floor_of (by rintro M ds Kp ⟨a, rfl, _⟩; rfl) fun f cdv A outer s H E M Kp ds hr h => ?_
  obtain ⟨p, rfl, hp, k⟩ := h
  exact wss_one (ws_ret (w_div (w_p0 0 rfl (w_p1 0 rfl ⟨_, _, rfl, rfl, divOk hp.pos hp.d, k⟩))))
/-! the law's own -/
theorem ok_lcommon (B : Bt mg) (d : Df K mg "_law_common" s_law_common ["_law_one", "_law_other"]) : FnR P w K mg base "_law_common" 1 F_common := by
  refine fnD d sc_law_common (by rintro M ds Kp ⟨a, b, rfl, _⟩; rfl) fun f cdv A outer s H E M Kp ds hr h => ?_
  obtain ⟨a, b, rfl, k⟩ := h
  refine wss_cons (ws_par2 0 1 (w_abs B.abs (w_v 0 rfl ⟨_, rfl, w_abs B.abs (w_v 1 rfl ⟨_, rfl, ?_⟩)⟩)) sc_law_common.nd)
  refine wss_cons (ws_while (fun m G => ∃ x y : Int, G = [.val (.int x), .val (.int y)] ∧ 0 ≤ x ∧ 0 ≤ y ∧ m = y.toNat ∧ Int.gcd x y = Int.gcd a b) _ ⟨_, _, rfl, by omega, by omega, rfl, ?_⟩ ?_)
  · split <;> split <;> simp
  · rintro m G ⟨x, y, rfl, hx, hy, rfl, hg⟩
    refine wt_ne (w_v 1 rfl (w_int ⟨_, _, rfl, rfl, fun hz => ?_, fun hz => ?_⟩))
    · have hy0 : y ≠ 0 := by simpa using hz
      have := Int.emod_nonneg x hy0
      have := Int.emod_lt_of_pos x (show 0 < y by omega)
      refine wss_one (ws_par2 0 1 (w_v 1 rfl (w_mod (w_toint B.int (w_v 0 rfl (.inl ⟨_, rfl, w_v 1 rfl ⟨_, _, rfl, rfl, by omega, ?_⟩⟩))))) sc_law_common.nd)
      refine ⟨_, by omega, _, _, rfl, by omega, by omega, rfl, ?_⟩
      rw [← hg]; exact gcd_step hx (by omega)
    · have hy0 : y = 0 := by simpa using hz
      subst hy0
      refine wss_one (ws_ret (w_v 0 rfl ?_))
      have : (Int.gcd a b : Int) = x := by rw [← hg]; simp; omega
      rw [← this]; exact k
theorem ok_part (d : Df K mg "_law_part" s_law_part ["_law_n", "_law_d"]) (g : FnR P w K mg base "_law_common" 1 F_common) : FnR P w K mg base "_law_part" 2 F_red := by
  refine fnD d sc_law_part (by rintro M ds Kp ⟨a, b, rfl, _⟩; rfl) fun f cdv A outer s H E M Kp ds hr h => ?_
  obtain ⟨n, d, rfl, hd, hs, k⟩ := h
  have hg := gcd_pos (n := n) hd
  have sg : Sm 8900 (Int.gcd n d : Int) := Sm.gcd hd hs
  refine wss_cons (ws_set 2 (w_call g hr (wa_cons (w_v 0 rfl (wa_cons (w_v 1 rfl (wa_nil ?_)))))) sc_law_part.nd)
  refine ⟨n, d, rfl, rfl, ?_⟩
  exact wss_one (ws_ret (w_pair (w_div (w_v 0 rfl (w_v 2 rfl ⟨_, _, rfl, rfl, divOk hg sg, w_div (w_v 1 rfl (w_v 2 rfl ⟨_, _, rfl, rfl, divOk hg sg, _, _, rfl, rfl, k⟩))⟩)))))
theorem ok_ladd (d : Df K mg "_law_add" s_law_add ["_law_one", "_law_other"]) (g : FnR P w K mg base "_law_part" 2 F_red) : FnR P w K mg base "_law_add" 3 F_added := by
  refine fnD d sc_law_add F_two.len fun f cdv A outer s H E M Kp ds hr h => ?_
  obtain ⟨p, q, rfl, hp, hq, k⟩ := h
  refine wss_one (ws_ret (w_call g hr (wa_cons (w_add (w_mul (w_p0 0 rfl (w_p1 1 rfl ⟨_, _, rfl, rfl, mulOk hp.n hq.d, w_mul (w_p0 1 rfl (w_p1 0 rfl ⟨_, _, rfl, rfl, mulOk hq.n hp.d, _, _, rfl, rfl, ?_⟩))⟩)))))))
  refine wa_cons (w_mul (w_p1 0 rfl (w_p1 1 rfl ⟨_, _, rfl, rfl, mulOk hp.d hq.d, wa_nil ⟨_, _, rfl, Int.mul_pos hp.pos hq.pos, (hp.d.mul hq.d).mono (by decide), rfl, k⟩⟩)))
theorem ok_lless (d : Df K mg "_law_less" s_law_less ["_law_one", "_law_other"]) (g : FnR P w K mg base "_law_part" 2 F_red) : FnR P w K mg base "_law_less" 3 (F_two sub) := by
  refine fnD d sc_law_less F_two.len fun f cdv A outer s H E M Kp ds hr h => ?_
  obtain ⟨p, q, rfl, hp, hq, k⟩ := h
  refine wss_one (ws_ret (w_call g hr (wa_cons (w_sub (w_mul (w_p0 0 rfl (w_p1 1 rfl ⟨_, _, rfl, rfl, mulOk hp.n hq.d, w_mul (w_p0 1 rfl (w_p1 0 rfl ⟨_, _, rfl, rfl, mulOk hq.n hp.d, _, _, rfl, rfl, ?_⟩))⟩)))))))
  refine wa_cons (w_mul (w_p1 0 rfl (w_p1 1 rfl ⟨_, _, rfl, rfl, mulOk hp.d hq.d, wa_nil ⟨_, _, rfl, Int.mul_pos hp.pos hq.pos, (hp.d.mul hq.d).mono (by decide), rfl, k⟩⟩)))
def F_many : Md → List D → (D → Prop) → Prop := fun M ds K => ∃ (p : Int × Int) (k : Int), ds = [pr p, .int k] ∧ Bq 2000 p ∧ Sm 2000 k ∧ K (pr (many p k))
theorem ok_lmany (d : Df K mg "_law_many" s_law_many ["_law_one", "_law_many_here"]) (g : FnR P w K mg base "_law_part" 2 F_red) : FnR P w K mg base "_law_many" 3 F_many := by
  refine fnD d sc_law_many (by rintro M ds Kp ⟨a, b, rfl, _⟩; rfl) fun f cdv A outer s H E M Kp ds hr h => ?_
  obtain ⟨p, n, rfl, hp, hn, k⟩ := h
  refine wss_one (ws_ret (w_call g hr (wa_cons (w_mul (w_p0 0 rfl (w_v 1 rfl ⟨_, _, rfl, rfl, mulOk hp.n hn, ?_⟩))))))
  exact wa_cons (w_p1 0 rfl (wa_nil ⟨_, _, rfl, hp.pos, hp.d.mono (by decide), rfl, k⟩))
def F_below : Md → List D → (D → Prop) → Prop := fun M ds K => ∃ p q : Int × Int, ds = [pr p, pr q] ∧ Bq 2000 p ∧ Bq 2000 q ∧ K (.bl (decide (p.1 * q.2 < q.1 * p.2)))
theorem ok_lbelow (d : Df K mg "_law_is_below" s_law_is_below ["_law_one", "_law_other"]) : FnR P w K mg base "_law_is_below" 1 F_below := by
  refine fnD d sc_law_is_below (by rintro M ds Kp ⟨a, b, rfl, _⟩; rfl) fun f cdv A outer s H E M Kp ds hr h => ?_
  obtain ⟨p, q, rfl, hp, hq, k⟩ := h
  exact wss_one (ws_ret (w_lt (w_mul (w_p0 0 rfl (w_p1 1 rfl ⟨_, _, rfl, rfl, mulOk hp.n hq.d, w_mul (w_p0 1 rfl (w_p1 0 rfl ⟨_, _, rfl, rfl, mulOk hq.n hp.d, _, _, rfl, rfl, k⟩))⟩)))))
end
end FL
end
section
set_option Elab.async false
set_option linter.all false
set_option maxRecDepth 100000
/-! PHI and what is next to it. -/
namespace FL
open PySem PySem.Spec PyProof.Rows L2 FM
/-- BOUNDS: cell, drift and shift in 1 by 360, lo, K, p -/
structure Pm where
  cell : Int
  dr : Int
  sh : Int
  lo : Int
  K : Int
  p : Int
structure Pm.Ok (b : Pm) : Prop where
  c1 : 1 ≤ b.cell
  c2 : Sm 200 b.cell
  d1 : 0 ≤ b.dr
  d2 : b.dr ≤ 10000
  s1 : 0 ≤ b.sh
  s2 : b.sh ≤ 10000
  l1 : 1 ≤ b.lo
  lK : b.lo ≤ b.K
  K2 : b.K ≤ 100
  p1 : 1 ≤ b.p
  p2 : b.p ≤ 100
def bD (b : Pm) : D := .tup [.int b.cell, pr (fr b.dr), pr (fr b.sh), .int b.lo, .int b.K, .int b.p]
theorem Pm.Ok.sd {b : Pm} (h : b.Ok) : Sm 14 b.dr := Sm.of 10000 (by have := h.d1; have := h.d2; omega)
theorem Pm.Ok.ss {b : Pm} (h : b.Ok) : Sm 14 b.sh := Sm.of 10000 (by have := h.s1; have := h.s2; omega)
theorem Pm.Ok.bd {b : Pm} (h : b.Ok) : Bq 23 (fr b.dr) := Bq.fr h.sd
theorem Pm.Ok.bs {b : Pm} (h : b.Ok) : Bq 23 (fr b.sh) := Bq.fr h.ss
theorem Bq1 {n : Int} {k : Nat} (h : Sm k n) (h1 : 1 ≤ k := by decide) : Bq k (n, 1) := ⟨(show (0 : Int) < 1 by decide), h, by
  have : (2 : Nat) ^ 1 ≤ 2 ^ k := Nat.pow_le_pow_right (by decide) h1
  show (1 : Int).natAbs < 2 ^ k
  omega⟩
theorem small4 : Sm 3 4 := by unfold Sm; decide
theorem sm20 {t : Int} (h0 : 0 ≤ t) (h : t ≤ 1000000) : Sm 20 t := Sm.of 1000000 (by omega)
section
variable {P : Program} {w : World} {K : PySem.W.Frag} {mg : Str → Option Value} {base : Heap}
def F_phi : Md → List D → (D → Prop) → Prop := fun M ds K => ∃ (b : Pm) (t : Int), ds = [bD b, .int t] ∧ b.Ok ∧ 1 ≤ t ∧ t ≤ 1000000 ∧ K (pr (ph b.dr b.sh t))
theorem ok_phi (d : Df K mg "phi" s_phi ["bounds", "t"]) (ga : FnR P w K mg base "added" 3 F_added) (gt : FnR P w K mg base "times" 3 F_times) (go : FnR P w K mg base "over" 3 F_over) (gw : FnR P w K mg base "whole" 1 F_whole) : FnR P w K mg base "phi" 4 F_phi := by
  refine fnD d sc_phi (by rintro M ds Kp ⟨a, b, rfl, _⟩; rfl) fun f cdv A outer s H E M Kp ds hr h => ?_
  obtain ⟨b, t, rfl, hb, h1, h2, k⟩ := h
  have st : Sm 20 t := sm20 (by omega) h2
  have st1 : Sm 20 (t - 1) := sm20 (by omega) (by omega)
  have nd := sc_phi.nd
  have hw := hr.mono (by decide : 1 ≤ 3)
  refine wss_cons (ws_asg (w_v 0 rfl (wg_tup (wgs_cons fun _ => wg_name 2 (wgs_cons fun _ => wg_name 3 (wgs_cons fun _ => wg_name 4 (wgs_cons fun _ => wg_name 5 (wgs_cons fun _ => wg_name 6 (wgs_cons fun _ => wg_name 7 (wgs_nil ?_) nd) nd) nd) nd) nd) nd) rfl)))
  refine wss_one (ws_ret (w_call ga hr (wa_cons (w_call go hr (wa_cons (w_call gt hr (wa_cons (w_call gw hw (wa_cons (w_int (wa_nil ⟨4, rfl, rfl, ?_⟩)))))))))))
  refine wa_cons (w_v 4 rfl (wa_nil ⟨_, _, rfl, (Bq1 small4).mono (by decide), hb.bs.mono (by decide), rfl, ?_⟩))
  refine wa_cons (w_call gw hw (wa_cons (w_v 1 rfl (wa_nil ⟨t, rfl, rfl, wa_nil ⟨_, _, rfl, ((Bq1 small4).mul hb.bs).mono (by decide), (Bq1 st).mono (by decide), (show 0 < t by omega), rfl, ?_⟩⟩))))
  refine wa_cons (w_call gt hr (wa_cons (w_v 3 rfl (wa_cons (w_call gw hw (wa_cons (w_sub (w_v 1 rfl (w_int ⟨_, _, rfl, rfl, wa_nil ⟨t - 1, rfl, rfl, ?_⟩⟩)))))))))
  refine wa_nil ⟨_, _, rfl, hb.bd.mono (by decide), (Bq1 st1).mono (by decide), rfl, ?_⟩
  refine wa_nil ⟨_, _, rfl, (((Bq1 small4).mul hb.bs).dvd (Bq1 st) (show 0 < t by omega)).mono (by decide), (hb.bd.mul (Bq1 st1)).mono (by decide), ?_⟩
  rw [ph_prog (by omega)]
  exact ⟨rfl, k⟩
theorem ok_lphi (d : Df K mg "_law_phi" s_law_phi ["_law_bounds", "_law_t"]) (ga : FnR P w K mg base "_law_add" 3 F_added) (gp : FnR P w K mg base "_law_part" 2 F_red) (gm : FnR P w K mg base "_law_many" 3 F_many) : FnR P w K mg base "_law_phi" 4 F_phi := by
  refine fnD d sc_law_phi (by rintro M ds Kp ⟨a, b, rfl, _⟩; rfl) fun f cdv A outer s H E M Kp ds hr h => ?_
  obtain ⟨b, t, rfl, hb, h1, h2, k⟩ := h
  have st : Sm 20 t := sm20 (by omega) h2
  have st1 : Sm 20 (t - 1) := sm20 (by omega) (by omega)
  have h0 := hb.bs
  refine wss_one (ws_ret (w_call ga hr (wa_cons (w_call gp (hr.mono (by decide)) (wa_cons (w_mul (w_ix (w_ix (w_v 0 rfl (w_int ⟨_, _, _, .inl rfl, rfl, rfl, w_int ⟨_, _, _, .inl rfl, rfl, rfl, w_int ⟨_, _, rfl, rfl, mulOk h0.n small4, ?_⟩⟩⟩))))))))))
  refine wa_cons (w_mul (w_ix (w_ix (w_v 0 rfl (w_int ⟨_, _, _, .inl rfl, rfl, rfl, w_int ⟨_, _, _, .inl rfl, rfl, rfl, w_v 1 rfl ⟨_, _, rfl, rfl, mulOk h0.d st, wa_nil ⟨_, _, rfl, Int.mul_pos h0.pos (by omega), (h0.d.mul st).mono (by decide), rfl, ?_⟩⟩⟩⟩)))))
  refine wa_cons (w_call gm hr (wa_cons (w_ix (w_v 0 rfl (w_int ⟨_, _, _, .inl rfl, rfl, rfl, wa_cons (w_sub (w_v 1 rfl (w_int ⟨_, _, rfl, rfl, wa_nil ⟨_, _, rfl, hb.bd.mono (by decide), st1.mono (by decide), rfl, ?_⟩⟩)))⟩)))))
  refine wa_nil ⟨_, _, rfl, (Bq.red (Int.mul_pos h0.pos (by omega)) ((h0.n.mul (Sm.of (a := 3) (x := 4) 4 (by decide))).mono (by decide)) (h0.d.mul st)).mono (by decide), (hb.bd.many st1).mono (by decide), ?_⟩
  rw [ph_law (by omega)]
  exact ⟨rfl, k⟩
end
end FL
end
section
set_option Elab.async false
set_option linter.all false
set_option maxRecDepth 100000
/-! The program's pull. -/
namespace FL
open PySem PySem.Spec PyProof.Rows L2 FM
section
variable {P : Program} {w : World} {K : PySem.W.Frag} {mg : Str → Option Value} {base : Heap}
def cbs (b : Pm) (u : Int) : Bool := decide (b.lo ≤ u) && decide (-(-u / b.K) ≤ u / b.lo)
theorem sm7 {t : Int} (h0 : 0 ≤ t) (h : t ≤ 100) : Sm 7 t := Sm.of 100 (by omega)
def F_cbs : Md → List D → (D → Prop) → Prop := fun M ds K => ∃ (b : Pm) (u : Int), ds = [bD b, .int u] ∧ b.Ok ∧ K (.bl (cbs b u))
theorem ok_cbs (d : Df K mg "can_be_sum" s_can_be_sum ["bounds", "cells"]) : FnR P w K mg base "can_be_sum" 1 F_cbs := by
  refine fnD d sc_can_be_sum (by rintro M ds Kp ⟨a, b, rfl, _⟩; rfl) fun f cdv A outer s H E M Kp ds hr h => ?_
  obtain ⟨b, u, rfl, hb, k⟩ := h
  have h1 := hb.l1
  have h2 := hb.lK
  have h3 := hb.K2
  refine wss_cons (ws_par2 2 3 (w_ix (w_v 0 rfl (w_int ⟨_, _, _, .inl rfl, rfl, rfl, w_ix (w_v 0 rfl (w_int ⟨_, _, _, .inl rfl, rfl, rfl, ?_⟩))⟩))) sc_can_be_sum.nd)
  refine wss_one (ws_ret (w_and (w_ge (w_v 1 rfl (w_v 2 rfl ⟨_, _, rfl, rfl, _, rfl, fun hz => ?_, fun hz => ?_⟩)))))
  · refine w_le (w_neg (w_div (w_neg (w_v 1 rfl ⟨_, rfl, w_v 3 rfl ⟨_, _, rfl, rfl, divOk (by omega) (sm7 (by omega) h3), _, rfl, w_div (w_v 1 rfl (w_v 2 rfl ⟨_, _, rfl, rfl, divOk (by omega) (sm7 (by omega) (by omega)), _, _, rfl, rfl, ?_⟩))⟩⟩))))
    have : cbs b u = decide (-(-u / b.K) ≤ u / b.lo) := by unfold cbs; rw [hz]; rfl
    rw [this] at k
    exact k
  · have : cbs b u = false := by unfold cbs; rw [hz]; rfl
    rw [this] at k
    exact k
/-! ### the turn -/
structure Trn (b : Pm) (T : Int) : Prop where
  h1 : 1 ≤ T
  le : 4 * b.sh ≤ b.dr * (T * (T + 1))
  lt : ∀ t, 1 ≤ t → t < T → b.dr * (t * (t + 1)) < 4 * b.sh
theorem mul_mono {a x y : Int} (h : 0 ≤ a) (e : x ≤ y) : a * x ≤ a * y := Int.mul_le_mul_of_nonneg_left e h
theorem sq_mono {s t : Int} (h0 : 0 ≤ s) (h : s ≤ t) : s * (s + 1) ≤ t * (t + 1) := Int.mul_le_mul h (by omega) (by omega) (by omega)
theorem Trn.iff {b : Pm} {T : Int} (h : Trn b T) (hd : 0 ≤ b.dr) {t : Int} (ht : 1 ≤ t) : 4 * b.sh ≤ b.dr * (t * (t + 1)) ↔ T ≤ t := by
  constructor
  · intro z
    by_cases q : T ≤ t
    · exact q
    · have := h.lt t ht (by omega); omega
  · intro z
    have h1 := h.h1
    exact Int.le_trans h.le (mul_mono hd (sq_mono (by omega) z))
theorem Trn.ex {b : Pm} (hb : b.Ok) (h : b.dr = 0 → b.sh = 0) : ∃ T, Trn b T ∧ T ≤ 200 := by
  have hd := hb.d1
  have hs := hb.s2
  have key : ∀ N : Nat, (4 * b.sh ≤ b.dr * (((N : Int) + 1) * ((N : Int) + 1 + 1))) → ∃ n : Nat, n ≤ N ∧ 4 * b.sh ≤ b.dr * (((n : Int) + 1) * ((n : Int) + 1 + 1)) ∧ ∀ m : Nat, m < n → b.dr * (((m : Int) + 1) * ((m : Int) + 1 + 1)) < 4 * b.sh := fun N => by
    induction N with
    | zero => exact fun z => ⟨0, Nat.le_refl _, z, fun m hm => absurd hm (Nat.not_lt_zero _)⟩
    | succ N ih =>
      intro z
      by_cases q : 4 * b.sh ≤ b.dr * (((N : Int) + 1) * ((N : Int) + 1 + 1))
      · obtain ⟨n, h1, h2, h3⟩ := ih q
        exact ⟨n, by omega, h2, h3⟩
      · refine ⟨N + 1, Nat.le_refl _, z, fun m hm => ?_⟩
        refine Int.lt_of_le_of_lt (mul_mono hd (sq_mono (s := (m : Int) + 1) (t := (N : Int) + 1) (by omega) (by omega))) (by omega)
  have z199 : 4 * b.sh ≤ b.dr * ((((199 : Nat) : Int) + 1) * (((199 : Nat) : Int) + 1 + 1)) := by
    by_cases q : b.dr = 0
    · rw [h q, q]; simp
    · have : (1 : Int) * ((((199 : Nat) : Int) + 1) * (((199 : Nat) : Int) + 1 + 1)) ≤ b.dr * ((((199 : Nat) : Int) + 1) * (((199 : Nat) : Int) + 1 + 1)) := Int.mul_le_mul_of_nonneg_right (by omega) (by decide)
      refine Int.le_trans ?_ this
      have : (1 : Int) * ((((199 : Nat) : Int) + 1) * (((199 : Nat) : Int) + 1 + 1)) = 40200 := by decide
      omega
  obtain ⟨n, h1, h2, h3⟩ := key 199 z199
  refine ⟨(n : Int) + 1, ⟨by omega, h2, fun t t1 t2 => ?_⟩, by omega⟩
  have := h3 (t - 1).toNat (by omega)
  rw [show (((t - 1).toNat : Int)) + 1 = t by omega] at this
  exact this
/-- first_that's body, under a rule for tells -/
theorem first_body {f : Addr} {cdv : Value} {A : Around} {outer : List Env} {s : Shared} {H : Hp} {E : XK} {C : Cn} {Kp : D → Prop} {fv : Addr} {T : Int} {tl : Int → Bool} (h1 : 1 ≤ T) (h2 : T ≤ 1000) (ht : ∀ t, 1 ≤ t → tl t = decide (T ≤ t)) (k : Kp (.int T))
    (rule : ∀ (Gf : List SD) (e : Expr) (p1 p2 : Pos) (K' : D → Prop), starEach [e] (XC P w K mg base n_first_that "first_that" s_first_that f cdv A outer s H E).env = (false, eval e (XC P w K mg base n_first_that "first_that" s_first_that f cdv A outer s H E).env) :: starEach [] (XC P w K mg base n_first_that "first_that" s_first_that f cdv A outer s H E).env → Gf[0]? = some (.val (.ref fv)) →
      W (XC P w K mg base n_first_that "first_that" s_first_that f cdv A outer s H E) C Gf e (fun d => ∃ t : Int, d = .int t ∧ 1 ≤ t ∧ t ≤ 4000 ∧ K' (.bl (tl t))) → W (XC P w K mg base n_first_that "first_that" s_first_that f cdv A outer s H E) C Gf (.Call (.Name "tells" p1) [e] [] p2) K') :
    WSs (XC P w K mg base n_first_that "first_that" s_first_that f cdv A outer s H E) C (startD n_first_that [.ref fv]) (defBody s_first_that) { nx := fun _ => False, rt := Kp } := by
  have nd := sc_first_that.nd
  refine wss_cons (ws_set 1 (w_int ?_) nd)
  refine wss_cons (ws_while (fun m G => ∃ h : Int, G = [.val (.ref fv), .val (.int h), .no, .no] ∧ 1 ≤ h ∧ (h = 1 ∨ h < 2 * T) ∧ h / 2 < T ∧ m = (4000 - h).toNat) _ ⟨1, rfl, by omega, .inl rfl, by omega, rfl⟩ ?_)
  rintro m G ⟨h, rfl, g1, g2, g3, rfl⟩
  refine wt_not (wt_val (rule _ _ _ _ _ rfl rfl (w_v 1 rfl ⟨h, rfl, g1, by omega, _, rfl, fun hz => ?_, fun hz => ?_⟩)))
  · rw [ht h g1] at hz
    have hz : ¬ T ≤ h := by simpa using hz
    refine wss_one (ws_set 1 (w_mul (w_int (w_v 1 rfl ⟨_, _, rfl, rfl, mulOk (Sm.of (a := 2) 2 (by decide)) (Sm.of (a := 12) 2000 (by omega)), ?_⟩))) nd)
    exact ⟨_, (by omega : (4000 - 2 * h).toNat < (4000 - h).toNat), 2 * h, rfl, by omega, by omega, by omega, rfl⟩
  · rw [ht h g1] at hz
    have hz : T ≤ h := by simpa using hz
    refine wss_cons (ws_set 2 (w_div (w_v 1 rfl (w_int ⟨_, _, rfl, rfl, divOk (by decide) (Sm.of (a := 2) 2 (by decide)), ?_⟩))) nd)
    refine wss_cons (ws_while (fun m G => ∃ (l h : Int) (o : SD), G = [.val (.ref fv), .val (.int h), .val (.int l), o] ∧ 0 ≤ l ∧ l < T ∧ T ≤ h ∧ h ≤ 4000 ∧ m = (h - l).toNat) _ ⟨h / 2, h, _, rfl, by omega, by omega, by omega, by omega, rfl⟩ ?_)
    rintro m G ⟨l, h, o, rfl, a1, a2, a3, a4, rfl⟩
    refine wt_gt (w_sub (w_v 1 rfl (w_v 2 rfl ⟨_, _, rfl, rfl, w_int ⟨_, _, rfl, rfl, fun hz => ?_, fun hz => ?_⟩⟩)))
    · have hz : 1 < h - l := of_decide_eq_true hz
      refine wss_cons (ws_set 3 (w_div (w_add (w_v 2 rfl (w_v 1 rfl ⟨_, _, rfl, rfl, w_int ⟨_, _, rfl, rfl, divOk (by decide) (Sm.of (a := 2) 2 (by decide)), ?_⟩⟩)))) nd)
      refine wss_one (ws_asg (w_if (wt_val (rule _ _ _ _ _ rfl rfl (w_v 3 rfl ⟨(l + h) / 2, rfl, by omega, by omega, _, rfl, fun hy => ?_, fun hy => ?_⟩)))))
      · rw [ht _ (by omega)] at hy
        have hy := of_decide_eq_true hy
        refine w_tup (wa_cons (w_v 2 rfl (wa_cons (w_v 3 rfl (wa_nil ⟨by show 2 ≤ 1000; decide, wg_tup (wgs_cons fun _ => wg_name 2 (wgs_cons fun _ => wg_name 1 (wgs_nil ?_) nd) nd) rfl⟩)))))
        exact ⟨_, (by omega : ((l + h) / 2 - l).toNat < (h - l).toNat), l, (l + h) / 2, _, rfl, by omega, by omega, by omega, by omega, rfl⟩
      · rw [ht _ (by omega)] at hy
        have hy := of_decide_eq_false hy
        refine w_tup (wa_cons (w_v 3 rfl (wa_cons (w_v 1 rfl (wa_nil ⟨by show 2 ≤ 1000; decide, wg_tup (wgs_cons fun _ => wg_name 2 (wgs_cons fun _ => wg_name 1 (wgs_nil ?_) nd) nd) rfl⟩)))))
        exact ⟨_, (by omega : (h - (l + h) / 2).toNat < (h - l).toNat), (l + h) / 2, h, _, rfl, by omega, by omega, by omega, by omega, rfl⟩
    · have hz : ¬ 1 < h - l := of_decide_eq_false hz
      obtain rfl : h = T := by omega
      exact wss_one (ws_ret (w_v 1 rfl k))
/-- a def whose code object is known, with its table -/
structure DfC (K : PySem.W.Frag) (mg : Str → Option Value) (base : Heap) (x : Str) (st : Stmt) (ps : List Str) (c Pt : Addr) : Prop where
  ex : ∃ (f : Addr) (oc : Value) (od : Option Addr) (kV doc pm : Value) (an : Option Addr) (ct : Value) (osl : Array (Option Value)), K.lookup f = some ⟨oc, od, .func (PySem.W.fnOf x x (defArgs st) (defBody st) (defScope st) .none kV doc pm an (.ref c) ct), osl⟩ ∧
    PySem.W.codeIn K (.ref c) x = true ∧ PySem.W.keepIn K (.ref f) = true ∧ mg x = some (.ref f) ∧ Binds K (PySem.W.fnOf x x (defArgs st) (defBody st) (defScope st) .none kV doc pm an (.ref c) ct) ps []
  tab : LamX.TabB base mg c Pt
theorem fnDc {x : Str} {st : Stmt} {N ps : List Str} {k : Nat} {F : Md → List D → (D → Prop) → Prop} {c Pt : Addr} (d : DfC K mg base x st ps c Pt) (S : FnScope N ps (defScope st)) (hlen : ∀ M ds Kp, F M ds Kp → ds.length = ps.length)
    (hb : ∀ f A outer s H E M Kp ds, Room k (A.deeper (envOfC x (defScope st) s.heap.objs.size f (.ref c))) → F M ds Kp → WSs (XC P w K mg base N x st f (.ref c) A outer s H E) ⟨M, H, []⟩ (startD N ds) (defBody st) { nx := fun _ => Kp .non, rt := Kp }) : FnR P w K mg base x (k + 1) F := by
  obtain ⟨f, oc, od, kV, doc, pm, an, ct, osl, lk, hcd, kp, gm, bS⟩ := d.ex
  refine ⟨f, _, ps, fn_of lk hcd S (fun vs H Q E h => ?_) fun A outer s H vs Q E hr h => ?_, gm, kp, bS⟩
  · obtain ⟨M, ds, Kp, _, hL, hF, _⟩ := h
    rw [HasL.len hL, hlen M ds Kp hF]
  · obtain ⟨M, ds, Kp, j, hL, hF, q⟩ := h
    refine ⟨_, (pwSs (X := XC P w K mg base N x st f (.ref c) A outer s H E)).nox, hb f A outer s H E M Kp ds hr hF _ _ H (start_est j hL) _ ⟨fun G A σ H' E' k => ?_, fun d v H' j' r' hd k => q d v H' r' j' hd k, fun _ _ _ _ _ k => k.elim, fun _ _ _ _ _ k => k.elim⟩⟩
    exact q .non .non H' E'.r E'.j hasN k
def lamQ : Str := "turn.<locals>.<lambda>"
def T0 (Pt : Addr) : List (Addr × Str) := [(Pt, lamQ)]
def F_turn (Pt : Addr) : Md → List D → (D → Prop) → Prop := fun M ds K => ∃ b : Pm, ds = [bD b] ∧ b.Ok ∧ M.T = T0 Pt ∧ (b.dr = 0 → b.sh ≠ 0 → K .non) ∧ ((b.dr = 0 → b.sh = 0) → ∀ T, Trn b T → T ≤ 200 → K (.int T))
theorem fr_zero {x : Int} : (fr x).1 = 0 ↔ x = 0 := by
  have v := V.fr x
  have h := v.val
  have p := v.pos
  constructor
  · intro z
    rw [z] at h
    rcases Int.mul_eq_zero.mp (show x * (fr x).2 = 0 by omega) with q | q
    · exact q
    · omega
  · intro z
    subst z
    omega
theorem ok_turn {c Pt : Addr} (d : DfC K mg base "turn" s_turn ["bounds"] c Pt) (df : Df K mg "first_that" s_first_that ["tells"]) (gw : FnR P w K mg base "whole" 1 F_whole) (gt : FnR P w K mg base "times" 3 F_times) (gc : FnR P w K mg base "compared" 1 F_compared) : FnR P w K mg base "turn" 6 (F_turn Pt) := by
  refine fnDc d sc_turn (by rintro M ds Kp ⟨a, rfl, _⟩; rfl) fun f A outer s H E M Kp ds hr h => ?_
  obtain ⟨b, rfl, hb, hT, k1, k2⟩ := h
  have nd := sc_turn.nd
  refine wss_cons (ws_asg (w_v 0 rfl (wg_tup (wgs_cons fun _ => wg_name 1 (wgs_cons fun _ => wg_name 2 (wgs_cons fun _ => wg_name 3 (wgs_cons fun _ => wg_name 4 (wgs_cons fun _ => wg_name 5 (wgs_cons fun _ => wg_name 6 (wgs_nil ?_) nd) nd) nd) nd) nd) nd) rfl)))
  refine wss_cons (ws_if (wt_eq (w_p0 2 rfl (w_int ⟨_, _, rfl, rfl, fun hz => ?_, fun hz => ?_⟩))))
  · have d0 : b.dr = 0 := fr_zero.mp (of_decide_eq_true hz)
    refine wss_one (ws_ret (w_if (wt_eq (w_p0 3 rfl (w_int ⟨_, _, rfl, rfl, fun hy => ?_, fun hy => ?_⟩)))))
    · have s0 : b.sh = 0 := fr_zero.mp (of_decide_eq_true hy)
      exact w_int (k2 (fun _ => s0) 1 ⟨by decide, by rw [s0, d0]; decide, fun t h1 h2 => by omega⟩ (by decide))
    · have s0 : b.sh ≠ 0 := fun z => absurd (fr_zero.mpr z) (of_decide_eq_false hy)
      exact w_non (k1 d0 s0)
  · have d0 : b.dr ≠ 0 := fun z => absurd (fr_zero.mpr z) (of_decide_eq_false hz)
    refine wss_nil ?_
    refine wss_cons (ws_set 7 (w_call gt (hr.mono (by decide)) (wa_cons (w_call gw (hr.mono (by decide)) (wa_cons (w_int (wa_nil ⟨4, rfl, rfl, ?_⟩)))))) nd)
    refine wa_cons (w_v 3 rfl (wa_nil ⟨_, _, rfl, (Bq1 small4).mono (by decide), hb.bs.mono (by decide), rfl, ?_⟩))
    obtain ⟨ff, fd, Fu, gm, bS⟩ := df.ex
    obtain ⟨oc, od, kV, doc, pm, an, cdv, ct, osl, rfl, lk, hcd⟩ := Fu.ex
    obtain ⟨T, tT, T2⟩ := Trn.ex hb (fun z => absurd z d0)
    refine wss_one (ws_ret (w_lam (k := 3) gm Fu.kp lk hcd bS sc_first_that rfl (Or.inl rfl) d.tab rfl (by rw [show M.T = _ from hT]; exact List.mem_cons_self) (by rw [show M.T = _ from hT]; intro p hp e; simp only [T0, List.mem_singleton] at hp; rw [hp]; rfl) hr ⟨rfl, rfl, rfl, rfl, by decide, (show ∀ y ∈ (_ : List (Str × NameKind)), y.2 = NameKind.free → (defScope s_turn).names.lookup y.1 = some .cell ∨ (defScope s_turn).names.lookup y.1 = some .free by decide), (show _ ∉ n_turn by decide)⟩ rfl (fun _ _ _ _ _ _ => rfl) fun cdg s' H1 fv rule => ?_))
    refine first_body (T := T) (tl := fun t => decide (4 * b.sh ≤ b.dr * (t * (t + 1)))) tT.h1 (by omega) (fun t ht => by rw [decide_eq_decide]; exact tT.iff hb.d1 ht) ⟨rfl, k2 (fun z => absurd z d0) T tT T2⟩ fun Gf e p1 p2 K' he gf h => ?_
    refine rule Gf e p1 p2 K' he gf (h.mono ?_)
    rintro _ ⟨t, rfl, t1, t2, kk⟩
    refine ⟨rfl, fun A outer s H f c' hr' => ?_⟩
    have st : Sm 12 t := Sm.of 4000 (by omega)
    have st1 : Sm 13 (t + 1) := Sm.of 4001 (by omega)
    refine w_le (w_call gc (hr'.mono (by decide)) (wa_cons (w_v 7 rfl (wa_cons ?_))))
    refine w_call gt hr' (wa_cons (w_v 2 rfl (wa_cons ?_)))
    refine w_call gw (hr'.mono (by decide)) (wa_cons (w_mul (w_v 8 rfl (w_add (w_v 8 rfl (w_int ⟨_, _, rfl, rfl, _, _, rfl, rfl, mulOk st st1, ?_⟩))))))
    refine wa_nil ⟨_, rfl, rfl, wa_nil ⟨_, _, rfl, hb.bd.mono (by decide), (Bq1 (st.mul st1)).mono (by decide), rfl, wa_nil ⟨_, _, rfl, ?_, ?_, rfl, w_int ⟨_, _, rfl, rfl, rfl, ?_⟩⟩⟩⟩
    · exact ((Bq1 small4).mul hb.bs).mono (by decide)
    · exact (hb.bd.mul (Bq1 (st.mul st1))).mono (by decide)
    · have v1 := (V.one 4).mul (V.fr b.sh)
      have v2 := (V.fr b.dr).mul (V.one (t * (t + 1)))
      have e : decide (cmpF (mul (4, 1) (fr b.sh)) (mul (fr b.dr) (t * (t + 1), 1)) ≤ 0) = decide (4 * b.sh ≤ b.dr * (t * (t + 1))) := by
        rw [decide_eq_decide]
        have := (@cmpF_pos (mul (4, 1) (fr b.sh)) (mul (fr b.dr) (t * (t + 1), 1))).trans (v2.lt v1)
        omega
      rw [e]
      exact kk
end
end FL
end
section
set_option Elab.async false
set_option linter.all false
set_option maxRecDepth 100000
/-! Leaps, worst, pull, needed, least_cell. -/
namespace FL
open PySem PySem.Spec PyProof.Rows L2 FM
theorem atI_nat {α : Type} {xs : List α} {i : Nat} {x : α} (h : xs[i]? = some x) : L2.atI xs (i : Int) = some x := by
  have := (List.getElem?_eq_some_iff.mp h).1
  unfold L2.atI L2.ixN
  rw [if_pos (by omega), if_pos (by omega), Option.bind_some, Int.toNat_natCast]
  exact h
theorem atI_neg {α : Type} {xs : List α} {i : Nat} {x : α} (h : xs[xs.length - i]? = some x) (h0 : 0 < i) (h1 : i ≤ xs.length) : L2.atI xs (-(i : Int)) = some x := by
  unfold L2.atI L2.ixN
  rw [if_neg (by omega), if_pos (by omega), Option.bind_some, show (-(i : Int) + (xs.length : Int)).toNat = xs.length - i by omega]
  exact h
def lef (p q : Int × Int) : Prop := p.1 * q.2 ≤ q.1 * p.2
theorem lef_refl (p : Int × Int) : lef p p := Int.le_refl _
theorem lef_trans {p q r : Int × Int} (hp : 0 < p.2) (hq : 0 < q.2) (hr : 0 < r.2) (a : lef p q) (b : lef q r) : lef p r := by
  unfold lef at *
  have h1 := Int.mul_le_mul_of_nonneg_right a (Int.le_of_lt hr)
  have h2 := Int.mul_le_mul_of_nonneg_right b (Int.le_of_lt hp)
  refine Int.le_of_mul_le_mul_right (a := q.2) ?_ hq
  have e1 : p.1 * r.2 * q.2 = p.1 * q.2 * r.2 := by grind
  have e2 : q.1 * p.2 * r.2 = q.1 * r.2 * p.2 := by grind
  have e3 : r.1 * q.2 * p.2 = r.1 * p.2 * q.2 := by grind
  omega
def lsf (p q : Int × Int) : Int × Int := if q.1 * p.2 < p.1 * q.2 then q else p
def cand (b : Pm) (u : Int) : Option (Int × Int) := if u = 0 then some (ph b.dr b.sh b.K) else if cbs b u = true then some (lsf (ph b.dr b.sh u) (ph b.dr b.sh (u + b.K))) else none
def itD (x : (Int × Int) × Int) : D := .tup [pr x.1, .int x.2]
def lpN (b : Pm) (st : Int) (n : Nat) : List ((Int × Int) × Int) := (List.range n).filterMap fun i : Nat => (cand b (st + (i : Int))).map fun q => (q, st + (i : Int))
theorem lpN_succ (b : Pm) (st : Int) (n : Nat) : lpN b st (n + 1) = lpN b st n ++ ((cand b (st + n)).map fun q => (q, st + n)).toList := by
  unfold lpN
  rw [List.range_succ, List.filterMap_append]
  cases h : (cand b (st + n)).map fun q => (q, st + n) <;> simp [h]
theorem lpN_len (b : Pm) (st : Int) (n : Nat) : (lpN b st n).length ≤ n := by
  have := List.length_filterMap_le (fun i : Nat => (cand b (st + i)).map fun q => (q, st + i)) (List.range n)
  simpa [lpN] using this
def lps (b : Pm) (T : Int) : List ((Int × Int) × Int) := lpN b (if 0 < T - b.K + 1 then T - b.K + 1 else 0) (T + 1 - (if 0 < T - b.K + 1 then T - b.K + 1 else 0)).toNat
theorem Pm.Ok.bp {b : Pm} (h : b.Ok) {t : Int} (h1 : 1 ≤ t) (h2 : t ≤ 1000000) : Bq 70 (ph b.dr b.sh t) := Bq.ph h.sd h.ss h1 (sm20 (by omega) h2)
theorem ph_nn {b : Pm} (h : b.Ok) {t : Int} (h1 : 1 ≤ t) : 0 ≤ (ph b.dr b.sh t).1 := by
  have v := ph_V (dr := b.dr) (sh := b.sh) (t := t) (by omega)
  have := h.d1
  have := h.s1
  have m : 0 ≤ b.dr * (t * (t - 1)) := Int.mul_nonneg (by omega) (Int.mul_nonneg (by omega) (by omega))
  have e := v.val
  have n : 0 ≤ (4 * b.sh + b.dr * (t * (t - 1))) * (ph b.dr b.sh t).2 := Int.mul_nonneg (by omega) (Int.le_of_lt v.pos)
  rw [← e] at n
  exact Int.nonneg_of_mul_nonneg_left n (by omega)
theorem cand_ok {b : Pm} (h : b.Ok) {u : Int} {q : Int × Int} (h0 : 0 ≤ u) (h1 : u ≤ 1000) (e : cand b u = some q) : Bq 70 q ∧ 0 ≤ q.1 := by
  have k1 := h.l1
  have k2 := h.lK
  have k3 := h.K2
  unfold cand at e
  split at e
  · cases e
    exact ⟨h.bp (by omega) (by omega), ph_nn h (by omega)⟩
  · split at e
    · cases e
      unfold lsf
      split
      · exact ⟨h.bp (by omega) (by omega), ph_nn h (by omega)⟩
      · exact ⟨h.bp (by omega) (by omega), ph_nn h (by omega)⟩
    · cases e
/-- what pull promises -/
structure PullOk (b : Pm) (q : Int × Int) : Prop where
  bq : Bq 70 q
  nn : 0 ≤ q.1
  no : b.dr = 0 → b.sh ≠ 0 → lef (ph b.dr b.sh (b.p * b.K)) q
  ld : ∀ T, Trn b T → b.p * b.K ≤ T → lef (ph b.dr b.sh (b.p * b.K)) q
  lp : ∀ T, Trn b T → ∀ u c, 0 ≤ u → T - b.K + 1 ≤ u → u ≤ T → cand b u = some c → lef c q
theorem Trn.uniq {b : Pm} {T S : Int} (a : Trn b T) (c : Trn b S) : T = S := by
  have a1 := a.h1
  have c1 := c.h1
  by_cases h : T < S
  · have := c.lt T a1 h; have := a.le; omega
  · by_cases h2 : S < T
    · have := a.lt S c1 h2; have := c.le; omega
    · omega
theorem mem_lps {b : Pm} {T u : Int} {c : Int × Int} (h0 : 0 ≤ u) (h1 : T - b.K + 1 ≤ u) (h2 : u ≤ T) (e : cand b u = some c) : (c, u) ∈ lps b T := by
  unfold lps lpN
  rw [List.mem_filterMap]
  generalize hs : (if 0 < T - b.K + 1 then T - b.K + 1 else 0) = st
  have hst : st ≤ u := by rw [← hs]; split <;> omega
  refine ⟨(u - st).toNat, ?_, ?_⟩
  · rw [List.mem_range]; omega
  · rw [show st + ((u - st).toNat : Int) = u by omega, e]; rfl
theorem of_lps {b : Pm} {T : Int} {x : (Int × Int) × Int} (h : x ∈ lps b T) : 0 ≤ x.2 ∧ T - b.K + 1 ≤ x.2 ∧ x.2 ≤ T ∧ cand b x.2 = some x.1 := by
  unfold lps lpN at h
  rw [List.mem_filterMap] at h
  obtain ⟨i, hi, e⟩ := h
  rw [List.mem_range] at hi
  generalize hs : (if 0 < T - b.K + 1 then T - b.K + 1 else 0) = st at hi e
  have hst : 0 ≤ st ∧ T - b.K + 1 ≤ st := by rw [← hs]; split <;> omega
  obtain ⟨q, eq, rfl⟩ := Option.map_eq_some_iff.mp e
  exact ⟨by show 0 ≤ st + (i : Int); omega, by show T - b.K + 1 ≤ st + (i : Int); omega, by show st + (i : Int) ≤ T; omega, eq⟩
theorem lps_ne {b : Pm} (hb : b.Ok) {T : Int} (h1 : 1 ≤ T) : lps b T ≠ [] := by
  have k1 := hb.l1
  have k2 := hb.lK
  have key : ∃ u c, 0 ≤ u ∧ T - b.K + 1 ≤ u ∧ u ≤ T ∧ cand b u = some c := by
    by_cases q : T < b.K
    · exact ⟨0, _, Int.le_refl _, by omega, by omega, by unfold cand; rw [if_pos rfl]⟩
    · have hd : 0 < T / b.K := by
        have := Int.ediv_mul_le T (show b.K ≠ 0 by omega)
        have := Int.lt_ediv_add_one_mul_self T (show 0 < b.K by omega)
        by_cases z : 0 < T / b.K
        · exact z
        · have : (T / b.K + 1) * b.K ≤ 1 * b.K := Int.mul_le_mul_of_nonneg_right (by omega) (by omega)
          omega
      have e1 := Int.ediv_mul_le T (show b.K ≠ 0 by omega)
      have e2 := Int.lt_ediv_add_one_mul_self T (show 0 < b.K by omega)
      have e3 : (T / b.K + 1) * b.K = T / b.K * b.K + b.K := by grind
      have e4 : 1 * b.K ≤ T / b.K * b.K := Int.mul_le_mul_of_nonneg_right (by omega) (by omega)
      refine ⟨T / b.K * b.K, lsf (ph b.dr b.sh (T / b.K * b.K)) (ph b.dr b.sh (T / b.K * b.K + b.K)), by omega, by omega, e1, ?_⟩
      unfold cand
      rw [if_neg (by omega), if_pos]
      unfold cbs
      rw [Bool.and_eq_true]
      refine ⟨decide_eq_true (by omega), decide_eq_true ?_⟩
      rw [show -(T / b.K * b.K) = (-(T / b.K)) * b.K by grind, Int.mul_ediv_cancel _ (by omega), Int.neg_neg]
      refine Int.le_ediv_of_mul_le (by omega) ?_
      exact Int.mul_le_mul_of_nonneg_left k2 (by omega)
  obtain ⟨u, c, a1, a2, a3, a4⟩ := key
  have := mem_lps a1 a2 a3 a4
  intro z
  rw [z] at this
  cases this
section
variable {P : Program} {w : World} {K : PySem.W.Frag} {mg : Str → Option Value} {base : Heap}
def F_leaps (Pt : Addr) : Md → List D → (D → Prop) → Prop := fun M ds K => ∃ b : Pm, ds = [bD b] ∧ b.Ok ∧ M.T = T0 Pt ∧ (b.dr = 0 → b.sh = 0) ∧ ∀ T, Trn b T → T ≤ 200 → K (.lst ((lps b T).map itD))
theorem ok_leaps {Pt : Addr} (B : Bt mg) (d : Df K mg "leaps" s_leaps ["bounds"]) (gt : FnR P w K mg base "turn" 6 (F_turn Pt)) (gp : FnR P w K mg base "phi" 4 F_phi) (gc : FnR P w K mg base "can_be_sum" 1 F_cbs) (gl : FnR P w K mg base "least_of" 2 F_least) : FnR P w K mg base "leaps" 7 (F_leaps Pt) := by
  refine fnD d sc_leaps (by rintro M ds Kp ⟨a, rfl, _⟩; rfl) fun f cdv A outer s H E M Kp ds hr h => ?_
  obtain ⟨b, rfl, hb, hT, hz, k⟩ := h
  have nd := sc_leaps.nd
  have k1 := hb.l1
  have k2 := hb.lK
  have k3 := hb.K2
  refine wss_cons (ws_par3O 1 2 3 (w_ix (w_v 0 rfl (w_int ⟨_, _, _, .inl rfl, rfl, rfl, ?_⟩))) nd)
  refine w_call gt hr (wa_cons (w_v 0 rfl (wa_nil ⟨b, rfl, hb, hT, fun z1 z2 => absurd (hz z1) z2, fun _ T tT T2 => ⟨rfl, ?_⟩⟩)))
  have t1 := tT.h1
  generalize hs : (if 0 < T - b.K + 1 then T - b.K + 1 else 0) = st
  have hst : 0 ≤ st ∧ st ≤ T := by rw [← hs]; split <;> omega
  refine wss_cons (ws_for (wi_range2 B.range (w_max2 rfl B.max (w_int (w_add (w_sub (w_v 2 rfl (w_v 1 rfl ⟨_, _, rfl, rfl, w_int ⟨_, _, rfl, rfl, ?_⟩⟩))))))))
  refine ⟨_, _, rfl, rfl, ?_⟩
  have e1 : (if T - b.K + 1 > 0 then T - b.K + 1 else 0) = st := hs
  rw [e1]
  refine w_add (w_v 2 rfl (w_int ⟨_, _, rfl, rfl, _, _, rfl, rfl, by omega, by omega, by omega, by omega, fun Zs => ?_⟩))
  refine ⟨fun i G => ∃ o, G = [.val (bD b), .val (.int b.K), .val (.int T), .own ((lpN b st i).map itD), o], ⟨_, rfl⟩, ?_, ?_⟩
  · rintro i G hi ⟨o, rfl⟩
    refine wg_name 4 ?_ nd
    have hlen := lpN_len b st i
    have hi2 : (i : Int) < T + 1 - st := by omega
    refine wss_one (ws_if (wt_eq (w_v 4 rfl (w_int ⟨_, _, rfl, rfl, fun hz => ?_, fun hz => ?_⟩))))
    · have hz : st + (i : Int) = 0 := of_decide_eq_true hz
      refine wss_one (ws_app 3 rfl (by rw [List.length_map]; omega) (w_tup (wa_cons (w_call gp (hr.mono (by decide)) (wa_cons (w_v 0 rfl (wa_cons (w_v 1 rfl (wa_nil ⟨b, b.K, rfl, hb, by omega, by omega, rfl, wa_cons (w_int (wa_nil ⟨by show 2 ≤ 1000; decide, ?_⟩))⟩)))))))))
      refine ⟨.val (.int (st + i)), ?_⟩
      rw [lpN_succ, show cand b (st + i) = some (ph b.dr b.sh b.K) by unfold cand; rw [if_pos hz], List.map_append]
      show [_, _, _, SD.own (_ ++ [D.tup [pr _, D.int 0]]), SD.val (D.int (st + i))] = [_, _, _, SD.own (_ ++ [D.tup [pr _, D.int (st + i)]]), SD.val (D.int (st + i))]
      rw [hz]
    · have hz : ¬ st + (i : Int) = 0 := of_decide_eq_false hz
      refine wss_one (ws_if (wt_val (w_call gc (hr.mono (by decide)) (wa_cons (w_v 0 rfl (wa_cons (w_v 4 rfl (wa_nil ⟨b, _, rfl, hb, rfl, _, rfl, fun hy => ?_, fun hy => ?_⟩))))))))
      · refine wss_one (ws_app 3 rfl (by rw [List.length_map]; omega) (w_tup (wa_cons (w_call gl (hr.mono (by decide)) (wa_cons (w_lst (wa_cons (w_call gp (hr.mono (by decide)) (wa_cons (w_v 0 rfl (wa_cons (w_v 4 rfl ?_)))))))))))) 
        refine wa_nil ⟨b, _, rfl, hb, by omega, by omega, rfl, ?_⟩
        refine wa_cons (w_call gp (hr.mono (by decide)) (wa_cons (w_v 0 rfl (wa_cons (w_add (w_v 4 rfl (w_v 1 rfl ⟨_, _, rfl, rfl, ?_⟩)))))))
        refine wa_nil ⟨b, _, rfl, hb, by omega, by omega, rfl, ?_⟩
        refine wa_nil ⟨by show 2 ≤ 1000; decide, wa_nil ⟨_, _, rfl, (hb.bp (by omega) (by omega)).mono (by decide), (hb.bp (by omega) (by omega)).mono (by decide), rfl, ?_⟩⟩
        refine wa_cons (w_v 4 rfl (wa_nil ⟨by show 2 ≤ 1000; decide, .val (.int (st + i)), ?_⟩))
        rw [lpN_succ, show cand b (st + i) = some (lsf (ph b.dr b.sh (st + i)) (ph b.dr b.sh (st + i + b.K))) by unfold cand; rw [if_neg hz, if_pos hy], List.map_append]
        rfl
      · refine wss_nil ⟨.val (.int (st + i)), ?_⟩
        rw [lpN_succ, show cand b (st + i) = none by unfold cand; rw [if_neg hz, if_neg (by rw [hy]; decide)], Option.map_none, Option.toList_none, List.append_nil]
        rfl
  · rintro G ⟨o, rfl⟩
    refine wss_freeze 3 rfl (wss_one (ws_ret (w_v 3 rfl ?_)))
    have := k T tT T2
    unfold lps at this
    rw [hs] at this
    exact this

/-- the greatest of the items, from the left -/
theorem lef_total {p q : Int × Int} : lef p q ∨ lef q p := by unfold lef; omega
def F_worst (Pt : Addr) : Md → List D → (D → Prop) → Prop := fun M ds K => ∃ b : Pm, ds = [bD b] ∧ b.Ok ∧ M.T = T0 Pt ∧ ∀ q u, PullOk b q → K (itD (q, u))
theorem ok_worst {Pt : Addr} (B : Bt mg) (d : Df K mg "worst" s_worst ["bounds"]) (gt : FnR P w K mg base "turn" 6 (F_turn Pt)) (gp : FnR P w K mg base "phi" 4 F_phi) (gl : FnR P w K mg base "leaps" 7 (F_leaps Pt)) (gc : FnR P w K mg base "compared" 1 F_compared) : FnR P w K mg base "worst" 8 (F_worst Pt) := by
  refine fnD d sc_worst (by rintro M ds Kp ⟨a, rfl, _⟩; rfl) fun f cdv A outer s H E M Kp ds hr h => ?_
  obtain ⟨b, rfl, hb, hT, k⟩ := h
  have nd := sc_worst.nd
  have k1 := hb.l1
  have k2 := hb.lK
  have k3 := hb.K2
  have p1 := hb.p1
  have p2 := hb.p2
  have pK1 : 1 ≤ b.p * b.K := by
    have : (1 : Int) * 1 ≤ b.p * b.K := Int.mul_le_mul p1 (by omega) (by omega) (by omega)
    omega
  have pK2 : b.p * b.K ≤ 10000 := by
    have : b.p * b.K ≤ 100 * 100 := Int.mul_le_mul p2 k3 (by omega) (by omega)
    omega
  -- the end: the loop over what is found
  have tail : ∀ (o : D) (its : List ((Int × Int) × Int)), its ≠ [] → its.length ≤ 1000 → (∀ x ∈ its, Bq 70 x.1 ∧ 0 ≤ x.1.1) → (∀ q, Bq 70 q → 0 ≤ q.1 → (∀ x ∈ its, lef x.1 q) → PullOk b q) → ∀ C : Cn, C.M = M →
      WSs (XC P w K mg base n_worst "worst" s_worst f cdv A outer s H E) C [.val (bD b), .val (.int b.K), .val (.int b.p), .val o, .val (.lst (its.map itD)), .no, .no] ((defBody s_worst).drop 3) { nx := fun _ => Kp .non, rt := Kp } := by
    intro o its ne lim sz fin C hC
    obtain ⟨x0, r, rfl⟩ := List.exists_cons_of_ne_nil ne
    refine wss_cons (ws_set 5 (w_ix (w_v 4 rfl (w_int ⟨_, _, itD x0, .inr rfl, rfl, atI_nat (i := 0) rfl, ?_⟩))) nd)
    refine wss_cons (ws_for (wi_list (w_tail (w_v 4 rfl ⟨_, rfl, _, rfl, fun Zs => ?_⟩))))
    refine ⟨fun i G => ∃ x o2, G = [.val (bD b), .val (.int b.K), .val (.int b.p), .val o, .val (.lst ((x0 :: r).map itD)), .val (itD x), o2] ∧ Bq 70 x.1 ∧ 0 ≤ x.1.1 ∧ ∀ y ∈ (x0 :: r).take (i + 1), lef y.1 x.1, ⟨x0, _, rfl, (sz x0 List.mem_cons_self).1, (sz x0 List.mem_cons_self).2, fun y hy => ?_⟩, ?_, ?_⟩
    · obtain rfl : y = x0 := by simpa using hy
      exact lef_refl _
    · rintro i G hi ⟨x, o2, rfl, sx, nx, mx⟩
      have hi2 : i < r.length := by simpa using hi
      have e1 : nthD (((x0 :: r).map itD).drop 1) i = itD r[i] := by
        unfold nthD
        rw [List.getD_eq_getElem?_getD, List.map_cons, List.drop_one, List.tail_cons, List.getElem?_map, List.getElem?_eq_getElem hi2]
        rfl
      rw [e1]
      have hm : r[i] ∈ x0 :: r := List.mem_cons_of_mem _ (List.getElem_mem _)
      refine wg_name 6 ?_ nd
      have e2 : (x0 :: r).take (i + 1 + 1) = (x0 :: r).take (i + 1) ++ [r[i]] := by
        rw [List.take_succ_eq_append_getElem (by simpa using hi2)]
        rfl
      have step : ∀ z : (Int × Int) × Int, Bq 70 z.1 → lef x.1 z.1 → lef r[i].1 z.1 → ∀ y ∈ (x0 :: r).take (i + 1 + 1), lef y.1 z.1 := by
        intro z bz h1 h2 y hy
        rw [e2, List.mem_append] at hy
        rcases hy with hy | hy
        · exact lef_trans (sz y (List.mem_of_mem_take hy)).1.pos sx.pos bz.pos (mx y hy) h1
        · obtain rfl : y = r[i] := by simpa using hy
          exact h2
      refine wss_one (ws_set 5 (w_if (wt_gt (w_call gc (hr.mono (by decide)) (wa_cons (w_ix (w_v 6 rfl (w_int ⟨_, _, pr r[i].1, .inl rfl, rfl, rfl, wa_cons (w_ix (w_v 5 rfl (w_int ⟨_, _, pr x.1, .inl rfl, rfl, rfl, wa_nil ⟨_, _, rfl, (sz _ hm).1.mono (by decide), sx.mono (by decide), rfl, w_int ⟨_, _, rfl, rfl, fun hz => ?_, fun hz => ?_⟩⟩⟩)))⟩))))))) nd)
      · have hz := cmpF_pos.mp (of_decide_eq_true hz)
        exact w_v 6 rfl ⟨_, _, rfl, (sz _ hm).1, (sz _ hm).2, step _ (sz _ hm).1 (by unfold lef; omega) (lef_refl _)⟩
      · have hz : ¬ _ := fun z => absurd (cmpF_pos.mpr z) (of_decide_eq_false hz)
        exact w_v 5 rfl ⟨_, _, rfl, sx, nx, step _ sx (lef_refl _) (by unfold lef; omega)⟩
    · rintro G ⟨x, o2, rfl, sx, nx, mx⟩
      refine wss_one (ws_ret (w_v 5 rfl (k x.1 x.2 (fin x.1 sx nx fun y hy => mx y ?_))))
      rw [List.take_of_length_le (by simp [List.length_drop])]
      exact hy
  refine wss_cons (ws_par3 1 2 3 (w_ix (w_v 0 rfl (w_int ⟨_, _, _, .inl rfl, rfl, rfl, w_ix (w_v 0 rfl (w_int ⟨_, _, _, .inl rfl, rfl, rfl, ?_⟩))⟩))) nd)
  have lead : Bq 70 (ph b.dr b.sh (b.p * b.K)) ∧ 0 ≤ (ph b.dr b.sh (b.p * b.K)).1 := ⟨hb.bp pK1 (by omega), ph_nn hb pK1⟩
  refine w_call gt (hr.mono (by decide)) (wa_cons (w_v 0 rfl (wa_nil ⟨b, rfl, hb, hT, fun z1 z2 => ⟨rfl, ?_⟩, fun hz T tT T2 => ⟨rfl, ?_⟩⟩)))
  · refine wss_cons (ws_set 4 (w_if (wt_isN (w_v 3 rfl ⟨fun _ => w_lst (wa_nil ⟨by show 0 ≤ 1000; decide, ?_⟩), fun z => by cases z⟩))) nd)
    refine wss_cons (ws_if (wt_or (wt_isN (w_v 3 rfl ⟨fun _ => ⟨fun _ => ?_, fun z => by cases z⟩, fun z => by cases z⟩))))
    refine wss_one (ws_set 4 (w_catL (w_lst (wa_cons (w_tup (wa_cons (w_call gp (hr.mono (by decide)) (wa_cons (w_v 0 rfl (wa_cons (w_mul (w_v 2 rfl (w_v 1 rfl ⟨_, _, rfl, rfl, mulOk (sm7 (by omega) p2) (sm7 (by omega) k3), ?_⟩))))))))))))  nd)
    refine wa_nil ⟨b, _, rfl, hb, pK1, by omega, rfl, wa_cons (w_int (wa_nil ⟨by show 2 ≤ 1000; decide, wa_nil ⟨by show 1 ≤ 1000; decide, w_v 4 rfl ⟨_, _, rfl, rfl, by show 1 + 0 ≤ 1000; decide, ?_⟩⟩⟩))⟩
    refine tail .non [(ph b.dr b.sh (b.p * b.K), 0)] (by simp) (by simp) (by simpa using lead) (fun q q1 q2 q3 => ⟨q1, q2, fun _ _ => q3 (ph b.dr b.sh (b.p * b.K), 0) List.mem_cons_self, fun T tT => ?_, fun T tT => ?_⟩) _ rfl
    · have e := tT.le; rw [z1] at e; have := hb.s1; omega
    · have e := tT.le; rw [z1] at e; have := hb.s1; omega
  · refine wss_cons (ws_set 4 (w_if (wt_isN (w_v 3 rfl ⟨fun z => (by cases z), fun _ => ?_⟩))) nd)
    refine w_callL gl hr rfl (wa_cons (w_v 0 rfl (wa_nil ⟨b, rfl, hb, hT, hz, fun S tS S2 => ?_⟩)))
    obtain rfl := tS.uniq tT
    have t1 := tT.h1
    have lsz : ∀ x ∈ lps b S, Bq 70 x.1 ∧ 0 ≤ x.1.1 := fun x hx => by
      obtain ⟨a1, a2, a3, a4⟩ := of_lps hx
      exact cand_ok hb a1 (by omega) a4
    have llen : (lps b S).length ≤ 201 := by
      refine Nat.le_trans (lpN_len ..) ?_
      split <;> omega
    refine wss_cons (ws_if (wt_or (wt_isN (w_v 3 rfl ⟨fun z => (by cases z), fun _ => ?_⟩))))
    refine wt_le (w_mul (w_v 2 rfl (w_v 1 rfl ⟨_, _, rfl, rfl, mulOk (sm7 (by omega) p2) (sm7 (by omega) k3), w_v 3 rfl ⟨_, _, rfl, rfl, fun hy => ?_, fun hy => ?_⟩⟩)))
    · have hy := of_decide_eq_true hy
      refine wss_one (ws_set 4 (w_catL (w_lst (wa_cons (w_tup (wa_cons (w_call gp (hr.mono (by decide)) (wa_cons (w_v 0 rfl (wa_cons (w_mul (w_v 2 rfl (w_v 1 rfl ⟨_, _, rfl, rfl, mulOk (sm7 (by omega) p2) (sm7 (by omega) k3), ?_⟩))))))))))))  nd)
      refine wa_nil ⟨b, _, rfl, hb, pK1, by omega, rfl, wa_cons (w_int (wa_nil ⟨by show 2 ≤ 1000; decide, wa_nil ⟨by show 1 ≤ 1000; decide, w_v 4 rfl ⟨_, _, rfl, rfl, ?_, ?_⟩⟩⟩))⟩
      · rw [List.length_map]; simp; omega
      refine tail (.int S) ((ph b.dr b.sh (b.p * b.K), 0) :: lps b S) (by simp) (by simp; omega) (fun x hx => ?_) (fun q q1 q2 q3 => ⟨q1, q2, fun z1 z2 => absurd (hz z1) z2, fun T' tT' _ => q3 (_, 0) List.mem_cons_self, fun T' tT' u c a1 a2 a3 a4 => ?_⟩) _ rfl
      · rcases List.mem_cons.mp hx with rfl | hx
        · exact lead
        · exact lsz x hx
      · obtain rfl := tT'.uniq tT
        exact q3 (c, u) (List.mem_cons_of_mem _ (mem_lps a1 a2 a3 a4))
    · have hy := of_decide_eq_false hy
      refine wss_nil ?_
      refine tail (.int S) (lps b S) (lps_ne hb t1) (by omega) lsz (fun q q1 q2 q3 => ⟨q1, q2, fun z1 z2 => absurd (hz z1) z2, fun T' tT' l => ?_, fun T' tT' u c a1 a2 a3 a4 => ?_⟩) _ rfl
      · obtain rfl := tT'.uniq tT
        exact absurd l hy
      · obtain rfl := tT'.uniq tT
        exact q3 (c, u) (mem_lps a1 a2 a3 a4)
end
end FL
end
section
set_option Elab.async false
set_option linter.all false
set_option maxRecDepth 100000
/-! pull, needed, least_cell; the law's own pull. -/
namespace FL
open PySem PySem.Spec PyProof.Rows L2 FM
/-- cell is over the need -/
def Sure (b : Pm) (q : Int × Int) : Prop := (4 * b.sh + b.dr * ((b.K - 1) * (b.K - 1 + 1))) * q.2 + 360 * ((b.K - 1) * q.1) < 360 * (b.cell * q.2)
def Pm.wc (b : Pm) (c : Int) : Pm := { b with cell := c }
theorem PullOk.wc {b : Pm} {q : Int × Int} {c : Int} (h : PullOk b q) : PullOk (b.wc c) q := ⟨h.bq, h.nn, h.no, fun T t => h.ld T ⟨t.h1, t.le, t.lt⟩, fun T t => h.lp T ⟨t.h1, t.le, t.lt⟩⟩
def nd (b : Pm) (r : Int) (q : Int × Int) : Int × Int := add (mul (4, 1) (fr b.sh)) (add (mul (r, 1) q) (mul (fr b.dr) (r * (r + 1), 1)))
theorem nd_V {b : Pm} {r : Int} {q : Int × Int} (hq : 0 < q.2) : V (nd b r q) ((4 * b.sh + b.dr * (r * (r + 1))) * q.2 + 360 * (r * q.1)) (360 * q.2) := by
  have v := ((V.one 4).mul (V.fr b.sh)).add (((V.one r).mul (p := (r, 1)) (q := q) (n := r) (d := 1) (m := q.1) (e := q.2) ⟨hq, hq, by grind⟩).add ((V.fr b.dr).mul (V.one (r * (r + 1)))))
  exact v.to (by omega) (by grind)
section
variable {P : Program} {w : World} {K : PySem.W.Frag} {mg : Str → Option Value} {base : Heap}
def F_pull (Pt : Addr) : Md → List D → (D → Prop) → Prop := fun M ds K => ∃ b : Pm, ds = [bD b] ∧ b.Ok ∧ M.T = T0 Pt ∧ ∀ q, PullOk b q → K (pr q)
theorem ok_pull {Pt : Addr} (d : Df K mg "pull" s_pull ["bounds"]) (gw : FnR P w K mg base "worst" 8 (F_worst Pt)) : FnR P w K mg base "pull" 9 (F_pull Pt) := by
  refine fnD d sc_pull (by rintro M ds Kp ⟨a, rfl, _⟩; rfl) fun f cdv A outer s H E M Kp ds hr h => ?_
  obtain ⟨b, rfl, hb, hT, k⟩ := h
  exact wss_one (ws_ret (w_ix (w_call gw hr (wa_cons (w_v 0 rfl (wa_nil ⟨b, rfl, hb, hT, fun q u hq => ⟨rfl, w_int ⟨_, _, pr q, .inl rfl, rfl, rfl, k q hq⟩⟩⟩))))))
theorem nd_Bq {b : Pm} (hb : b.Ok) {r : Int} {q : Int × Int} (h1 : 0 ≤ r) (h2 : r ≤ 100) (hq : Bq 70 q) : Bq 150 (nd b r q) := by
  have s1 : Sm 7 r := sm7 h1 h2
  have s2 : Sm 8 (r + 1) := Sm.of 101 (by omega)
  exact (((Bq1 small4).mul hb.bs).add (((Bq1 s1).mul hq).add (hb.bd.mul (Bq1 (s1.mul s2))))).mono (by decide)
def F_needed (Pt : Addr) : Md → List D → (D → Prop) → Prop := fun M ds K => ∃ (b : Pm) (r : Int), ds = [bD b, .int r] ∧ b.Ok ∧ M.T = T0 Pt ∧ 0 ≤ r ∧ r ≤ 100 ∧ ∀ q, PullOk b q → K (pr (nd b r q))
theorem ok_needed {Pt : Addr} (d : Df K mg "needed" s_needed ["bounds", "run"]) (gp : FnR P w K mg base "pull" 9 (F_pull Pt)) (gw : FnR P w K mg base "whole" 1 F_whole) (gt : FnR P w K mg base "times" 3 F_times) (ga : FnR P w K mg base "added" 3 F_added) : FnR P w K mg base "needed" 10 (F_needed Pt) := by
  refine fnD d sc_needed (by rintro M ds Kp ⟨a, r, rfl, _⟩; rfl) fun f cdv A outer s H E M Kp ds hr h => ?_
  obtain ⟨b, r, rfl, hb, hT, r1, r2, k⟩ := h
  have nd' := sc_needed.nd
  have h1 : Room 1 (XC P w K mg base n_needed "needed" s_needed f cdv A outer s H E).A := hr.mono (by decide)
  have h3 : Room 3 (XC P w K mg base n_needed "needed" s_needed f cdv A outer s H E).A := hr.mono (by decide)
  have s1 : Sm 7 r := sm7 r1 r2
  have s2 : Sm 8 (r + 1) := Sm.of 101 (by omega)
  refine wss_cons (ws_asg (w_v 0 rfl (wg_tup (wgs_cons fun _ => wg_name 2 (wgs_cons fun _ => wg_name 3 (wgs_cons fun _ => wg_name 4 (wgs_cons fun _ => wg_name 5 (wgs_cons fun _ => wg_name 6 (wgs_cons fun _ => wg_name 7 (wgs_nil ?_) nd') nd') nd') nd') nd') nd') rfl)))
  refine wss_cons (ws_set 8 (w_call gt h3 (wa_cons (w_call gw h1 (wa_cons (w_v 1 rfl (wa_nil ⟨r, rfl, rfl, ?_⟩)))))) nd')
  refine wa_cons (w_call gp hr (wa_cons (w_v 0 rfl (wa_nil ⟨b, rfl, hb, hT, fun q hq => ⟨rfl, wa_nil ⟨_, _, rfl, (Bq1 s1).mono (by decide), hq.bq.mono (by decide), rfl, ?_⟩⟩⟩))))
  refine wss_one (ws_ret (w_call ga h3 (wa_cons (w_call gt h3 (wa_cons (w_call gw h1 (wa_cons (w_int (wa_nil ⟨4, rfl, rfl, ?_⟩)))))))))
  refine wa_cons (w_v 4 rfl (wa_nil ⟨_, _, rfl, (Bq1 small4).mono (by decide), hb.bs.mono (by decide), rfl, ?_⟩))
  refine wa_cons (w_call ga h3 (wa_cons (w_v 8 rfl (wa_cons ?_))))
  refine w_call gt h3 (wa_cons (w_v 3 rfl (wa_cons ?_)))
  refine w_call gw h1 (wa_cons (w_mul (w_v 1 rfl (w_add (w_v 1 rfl (w_int ⟨_, _, rfl, rfl, _, _, rfl, rfl, mulOk s1 s2, wa_nil ⟨_, rfl, rfl, ?_⟩⟩))))))
  refine wa_nil ⟨_, _, rfl, hb.bd.mono (by decide), (Bq1 (s1.mul s2)).mono (by decide), rfl, ?_⟩
  refine wa_nil ⟨_, _, rfl, ((Bq1 s1).mul hq.bq).mono (by decide), (hb.bd.mul (Bq1 (s1.mul s2))).mono (by decide), rfl, ?_⟩
  refine wa_nil ⟨_, _, rfl, ((Bq1 small4).mul hb.bs).mono (by decide), (((Bq1 s1).mul hq.bq).add (hb.bd.mul (Bq1 (s1.mul s2)))).mono (by decide), rfl, ?_⟩
  exact k q hq
def F_leastc (Pt : Addr) : Md → List D → (D → Prop) → Prop := fun M ds K => ∃ b : Pm, ds = [pr (fr b.dr), pr (fr b.sh), .int b.lo, .int b.K, .int b.p] ∧ b.cell = 1 ∧ b.Ok ∧ M.T = T0 Pt ∧ ∀ c, 1 ≤ c → Sm 160 c → (b.lo ≠ b.K → ∃ q, PullOk b q ∧ Sure (b.wc c) q) → K (.int c)
theorem ok_leastc {Pt : Addr} (d : Df K mg "least_cell" s_least_cell ["drift", "shift", "lo", "most", "lead"]) (gn : FnR P w K mg base "needed" 10 (F_needed Pt)) (gf : FnR P w K mg base "floor_of" 1 F_floor) : FnR P w K mg base "least_cell" 11 (F_leastc Pt) := by
  refine fnD d sc_least_cell (by rintro M ds Kp ⟨a, rfl, _⟩; rfl) fun f cdv A outer s H E M Kp ds hr h => ?_
  obtain ⟨b, rfl, hc, hb, hT, k⟩ := h
  have k1 := hb.l1
  have k2 := hb.lK
  have k3 := hb.K2
  refine wss_cons (ws_if (wt_eq (w_v 2 rfl (w_v 3 rfl ⟨_, _, rfl, rfl, fun hz => ?_, fun hz => ?_⟩))))
  · have hz : b.lo = b.K := of_decide_eq_true hz
    exact wss_one (ws_ret (w_int (k 1 (by decide) (Sm.of 1 (by decide)) (fun z => absurd hz z))))
  · refine wss_nil (wss_one (ws_ret (w_add (w_call gf (hr.mono (by decide)) (wa_cons (w_call gn hr (wa_cons ?_)))))))
    refine w_tup (wa_cons (w_int (wa_cons (w_v 0 rfl (wa_cons (w_v 1 rfl (wa_cons (w_v 2 rfl (wa_cons (w_v 3 rfl (wa_cons (w_v 4 rfl (wa_nil ⟨by show 6 ≤ 1000; decide, ?_⟩)))))))))))))
    refine wa_cons (w_sub (w_v 3 rfl (w_int ⟨_, _, rfl, rfl, wa_nil ⟨b, b.K - 1, ?_, hb, hT, by omega, by omega, fun q hq => ⟨rfl, wa_nil ⟨_, rfl, (nd_Bq hb (by omega) (by omega) hq.bq).mono (by decide), rfl, w_int ⟨_, _, rfl, rfl, ?_⟩⟩⟩⟩⟩)))
    · unfold bD
      rw [hc]
    have v := nd_V (b := b) (r := b.K - 1) hq.bq.pos
    have bn := nd_Bq hb (r := b.K - 1) (by omega) (by omega) hq.bq
    generalize nd b (b.K - 1) q = z at v bn ⊢
    have hn : 0 ≤ (4 * b.sh + b.dr * ((b.K - 1) * (b.K - 1 + 1))) * q.2 + 360 * ((b.K - 1) * q.1) := by
      have := hb.s1
      have m1 : 0 ≤ b.dr * ((b.K - 1) * (b.K - 1 + 1)) := Int.mul_nonneg hb.d1 (Int.mul_nonneg (by omega) (by omega))
      have m2 := Int.mul_nonneg (a := 4 * b.sh + b.dr * ((b.K - 1) * (b.K - 1 + 1))) (by omega) (Int.le_of_lt hq.bq.pos)
      have m3 := Int.mul_nonneg (show 0 ≤ b.K - 1 by omega) hq.nn
      omega
    have zn : 0 ≤ z.1 := by
      have m := Int.mul_nonneg hn (Int.le_of_lt v.pos)
      rw [← v.val] at m
      exact Int.nonneg_of_mul_nonneg_left m v.dpos
    have zf : z.1 < (z.1 / z.2 + 1) * z.2 := Int.lt_ediv_add_one_mul_self _ v.pos
    have z0 : 0 ≤ z.1 / z.2 := Int.ediv_nonneg zn (Int.le_of_lt v.pos)
    refine k _ (by omega) ?_ fun _ => ⟨q, hq, ?_⟩
    · exact (bn.n.div.add (Sm.of 1 (by decide))).mono (by decide)
    · unfold Sure
      show (4 * b.sh + b.dr * ((b.K - 1) * (b.K - 1 + 1))) * q.2 + 360 * ((b.K - 1) * q.1) < 360 * ((z.1 / z.2 + 1) * q.2)
      have e := v.val
      refine Int.lt_of_mul_lt_mul_right (a := z.2) ?_ (Int.le_of_lt v.pos)
      rw [← e]
      have := Int.mul_lt_mul_of_pos_right zf v.dpos
      have e2 : (z.1 / z.2 + 1) * z.2 * (360 * q.2) = 360 * ((z.1 / z.2 + 1) * q.2) * z.2 := by grind
      omega
end
end FL
end
section
set_option Elab.async false
set_option linter.all false
set_option maxRecDepth 100000
/-! The law's own pull is not over the program's. -/
namespace FL
open PySem PySem.Spec PyProof.Rows L2 FM
theorem lef_V {p q : Int × Int} {n d m e : Int} (a : V p n d) (b : V q m e) : lef p q ↔ n * e ≤ m * d := by
  have := b.lt a
  unfold lef
  omega
theorem ph_lef {dr sh s t : Int} (hs : 1 ≤ s) (ht : 1 ≤ t) : lef (ph dr sh s) (ph dr sh t) ↔ 0 ≤ (t - s) * (dr * (s * t) - 4 * sh) := by
  rw [lef_V (ph_V (by omega)) (ph_V (by omega))]
  have e : (4 * sh + dr * (t * (t - 1))) * (360 * s) - (4 * sh + dr * (s * (s - 1))) * (360 * t) = 360 * ((t - s) * (dr * (s * t) - 4 * sh)) := by grind
  omega
theorem ph_mono {b : Pm} (hb : b.Ok) {T s t : Int} (h : Trn b T) (h1 : T ≤ s) (h2 : s ≤ t) : lef (ph b.dr b.sh s) (ph b.dr b.sh t) := by
  have h0 := h.h1
  rw [ph_lef (by omega) (by omega)]
  by_cases q : s = t
  · subst q; simp
  · refine Int.mul_nonneg (by omega) ?_
    have : b.dr * (T * (T + 1)) ≤ b.dr * (s * t) := mul_mono hb.d1 (Int.mul_le_mul h1 (by omega) (by omega) (by omega))
    have := h.le
    omega
theorem ph_anti {b : Pm} (hb : b.Ok) {T s t : Int} (h : Trn b T) (h0 : 1 ≤ s) (h1 : s ≤ t) (h2 : t ≤ T) : lef (ph b.dr b.sh t) (ph b.dr b.sh s) := by
  rw [ph_lef (by omega) (by omega)]
  by_cases q : s = t
  · subst q; simp
  · have e1 : b.dr * (t * s) ≤ b.dr * ((t - 1) * (t - 1 + 1)) := mul_mono hb.d1 (by
      rw [Int.mul_comm]
      exact Int.mul_le_mul (by omega) (by omega) (by omega) (by omega))
    have e2 := h.lt (t - 1) (by omega) (by omega)
    have : 0 ≤ (t - s) * (4 * b.sh - b.dr * (t * s)) := Int.mul_nonneg (by omega) (by omega)
    have e3 : (s - t) * (b.dr * (t * s) - 4 * b.sh) = (t - s) * (4 * b.sh - b.dr * (t * s)) := by grind
    omega
/-- what is known of a distance c: it is a sum of runs, its least is one that the chain has (or q is over it) -/
def IV (b : Pm) (T : Int) (q : Int × Int) (c : Int) : Option (Int × Int) → Prop
  | none => c = 0
  | some v => 0 < c ∧ Bq 70 v ∧ (∃ n : Int, n * b.lo ≤ c ∧ c ≤ n * b.K) ∧ (c ≤ T ∨ lef v q) ∧ (c ≤ T → lef v (ph b.dr b.sh c))
def lsO (dv : Option (Int × Int)) (its : Int × Int) : Int × Int := match dv with
  | none => its
  | some v => if its.1 * v.2 < v.1 * its.2 then its else v
theorem lsO_le {dv : Option (Int × Int)} {its : Int × Int} : lef (lsO dv its) its := by
  cases dv with
  | none => exact lef_refl _
  | some v =>
    unfold lsO
    dsimp only
    split
    · exact lef_refl _
    · unfold lef; omega
theorem lsO_le2 {v its : Int × Int} : lef (lsO (some v) its) v := by
  unfold lsO
  dsimp only
  split
  · unfold lef; omega
  · exact lef_refl _
theorem cbs_of {b : Pm} (hb : b.Ok) {c n : Int} (h0 : 0 < c) (h1 : n * b.lo ≤ c) (h2 : c ≤ n * b.K) : cbs b c = true := by
  have k1 := hb.l1
  have k2 := hb.lK
  have n1 : 1 ≤ n := by
    by_cases q : 1 ≤ n
    · exact q
    · have : n * b.K ≤ 0 * b.K := Int.mul_le_mul_of_nonneg_right (by omega) (by omega)
      omega
  unfold cbs
  rw [Bool.and_eq_true]
  refine ⟨decide_eq_true ?_, decide_eq_true ?_⟩
  · have : 1 * b.lo ≤ n * b.lo := Int.mul_le_mul_of_nonneg_right n1 (by omega)
    omega
  · have e1 : n ≤ c / b.lo := Int.le_ediv_of_mul_le (by omega) h1
    have e2 : -n ≤ -c / b.K := Int.le_ediv_of_mul_le (by omega) (by rw [Int.neg_mul]; omega)
    omega
theorem IV_step {b : Pm} (hb : b.Ok) {T : Int} {q : Int × Int} (hT : Trn b T) (hq : PullOk b q) {c r : Int} {dv : Option (Int × Int)} (h : IV b T q c dv) (r1 : b.lo ≤ r) (r2 : r ≤ b.K) (lim : c + r ≤ 1000000) (lT : T ≤ 1000) : IV b T q (c + r) (some (lsO dv (ph b.dr b.sh (c + r)))) := by
  have k1 := hb.l1
  have k2 := hb.lK
  have t1 := hT.h1
  have c0 : 0 ≤ c := by
    cases dv with
    | none => have e : c = 0 := h; omega
    | some v => have := h.1; omega
  have bits := hb.bp (t := c + r) (by omega) lim
  have bl : Bq 70 (lsO dv (ph b.dr b.sh (c + r))) := by
    cases dv with
    | none => exact bits
    | some v =>
      unfold lsO
      dsimp only
      split
      · exact bits
      · exact h.2.1
  refine ⟨by omega, bl, ?_, ?_, fun _ => lsO_le⟩
  · cases dv with
    | none =>
      have e : c = 0 := h
      exact ⟨1, by omega, by omega⟩
    | some v =>
      obtain ⟨_, _, ⟨n, n1, n2⟩, _⟩ := h
      exact ⟨n + 1, by rw [Int.add_mul]; omega, by rw [Int.add_mul]; omega⟩
  · by_cases z : c + r ≤ T
    · exact .inl z
    · refine .inr ?_
      cases dv with
      | none =>
        have e : c = 0 := h
        subst e
        have p := ph_mono hb hT (s := 0 + r) (t := b.K) (by omega) (by omega)
        have cd : lef (ph b.dr b.sh b.K) q := hq.lp T hT 0 _ (by omega) (by omega) (by omega) (by unfold cand; rw [if_pos rfl])
        exact lef_trans bl.pos bits.pos hq.bq.pos lsO_le (lef_trans bits.pos (hb.bp (t := b.K) (by omega) (by have := hb.K2; omega)).pos hq.bq.pos p cd)
      | some v =>
        obtain ⟨h0, hv, ⟨n, n1, n2⟩, h3, h4⟩ := h
        rcases h3 with h3 | h3
        · have bc := hb.bp (t := c) (by omega) (by omega)
          have hc := hb.bp (t := c + b.K) (by omega) (by have := hb.K2; omega)
          have cd : lef (lsf (ph b.dr b.sh c) (ph b.dr b.sh (c + b.K))) q := hq.lp T hT c _ (by omega) (by omega) h3 (by unfold cand; rw [if_neg (by omega), if_pos (cbs_of hb h0 n1 n2)])
          unfold lsf at cd
          split at cd
          · exact lef_trans bl.pos bits.pos hq.bq.pos lsO_le (lef_trans bits.pos hc.pos hq.bq.pos (ph_mono hb hT (by omega) (by omega)) cd)
          · exact lef_trans bl.pos hv.pos hq.bq.pos lsO_le2 (lef_trans hv.pos bc.pos hq.bq.pos (h4 h3) cd)
        · exact lef_trans bl.pos hv.pos hq.bq.pos lsO_le2 h3
/-- behind the last lead -/
theorem IV_end {b : Pm} (hb : b.Ok) {T : Int} {q v : Int × Int} (hT : Trn b T) (hq : PullOk b q) {c : Int} (h0 : 0 ≤ c) (h : IV b T q (c + b.p * b.K) (some v)) (lim : c + b.p * b.K ≤ 1000000) : lef v q := by
  obtain ⟨h1, h2, _, h3, h4⟩ := h
  rcases h3 with h3 | h3
  · have pK1 : 1 * 1 ≤ b.p * b.K := Int.mul_le_mul hb.p1 (by have := hb.l1; have := hb.lK; omega) (by omega) (by have := hb.p1; omega)
    have b1 := hb.bp (t := c + b.p * b.K) (by omega) lim
    have b2 := hb.bp (t := b.p * b.K) (by omega) (by omega)
    exact lef_trans h2.pos b1.pos hq.bq.pos (h4 h3) (lef_trans b1.pos b2.pos hq.bq.pos (ph_anti hb hT (by omega) (by omega) h3) (hq.ld T hT (by omega)))
  · exact h3
def dO : Option (Int × Int) → D
  | none => .non
  | some v => pr v
section
variable {P : Program} {w : World} {K : PySem.W.Frag} {mg : Str → Option Value} {base : Heap}
theorem turn_iff {dr sh x : Int} : (fr dr).1 * (fr sh).2 * x < 4 * (fr sh).1 * (fr dr).2 ↔ dr * x < 4 * sh := by
  have v1 := V.fr dr
  have v2 := V.fr sh
  have e1 := v1.val
  have e2 := v2.val
  have hp : 0 < (fr dr).2 * (fr sh).2 := Int.mul_pos v1.pos v2.pos
  rw [← mul_lt_iff (c := 360) (by decide), ← mul_lt_iff (a := dr * x) hp]
  have a1 : (fr dr).1 * (fr sh).2 * x * 360 = dr * x * ((fr dr).2 * (fr sh).2) := by grind
  have a2 : 4 * (fr sh).1 * (fr dr).2 * 360 = 4 * sh * ((fr dr).2 * (fr sh).2) := by grind
  rw [a1, a2]
def F_lturn : Md → List D → (D → Prop) → Prop := fun M ds K => ∃ b : Pm, ds = [bD b] ∧ b.Ok ∧ (b.dr = 0 → b.sh ≠ 0 → K .non) ∧ ((b.dr = 0 → b.sh = 0) → ∀ T, Trn b T → T ≤ 200 → K (.int T))
theorem ok_lturn (d : Df K mg "_law_turn" s_law_turn ["_law_bounds"]) : FnR P w K mg base "_law_turn" 1 F_lturn := by
  refine fnD d sc_law_turn (by rintro M ds Kp ⟨a, rfl, _⟩; rfl) fun f cdv A outer s H E M Kp ds hr h => ?_
  obtain ⟨b, rfl, hb, k1, k2⟩ := h
  have nd := sc_law_turn.nd
  have bd := hb.bd
  have bs := hb.bs
  refine wss_cons (ws_par2 1 2 (w_mul (w_mul (w_int (w_ix (w_ix (w_v 0 rfl (w_int ⟨_, _, _, .inl rfl, rfl, rfl, w_int ⟨_, _, _, .inl rfl, rfl, rfl, _, _, rfl, rfl, mulOk small4 bs.n, ?_⟩⟩))))))) nd)
  refine w_ix (w_ix (w_v 0 rfl (w_int ⟨_, _, _, .inl rfl, rfl, rfl, w_int ⟨_, _, _, .inl rfl, rfl, rfl, _, _, rfl, rfl, mulOk (small4.mul bs.n) bd.d, ?_⟩⟩)))
  refine w_mul (w_ix (w_ix (w_v 0 rfl (w_int ⟨_, _, _, .inl rfl, rfl, rfl, w_int ⟨_, _, _, .inl rfl, rfl, rfl, ?_⟩⟩))))
  refine w_ix (w_ix (w_v 0 rfl (w_int ⟨_, _, _, .inl rfl, rfl, rfl, w_int ⟨_, _, _, .inl rfl, rfl, rfl, _, _, rfl, rfl, mulOk bd.n bs.d, ?_⟩⟩)))
  have step0 : (fr b.dr).1 * (fr b.sh).2 = 0 ↔ b.dr = 0 := by
    rw [Int.mul_eq_zero, fr_zero]
    have := (V.fr b.sh).pos
    omega
  have need0 : 0 < 4 * (fr b.sh).1 * (fr b.dr).2 ↔ b.sh ≠ 0 := by
    have v := V.fr b.sh
    have p := (V.fr b.dr).pos
    have s1 := hb.s1
    have hn : 0 ≤ (fr b.sh).1 := by
      have m := Int.mul_nonneg s1 (Int.le_of_lt v.pos)
      rw [← v.val] at m
      exact Int.nonneg_of_mul_nonneg_left m (by decide)
    constructor
    · intro z z2
      rw [fr_zero.mpr z2] at z
      simp at z
    · intro z
      have z2 : (fr b.sh).1 ≠ 0 := fun q => z (fr_zero.mp q)
      exact Int.mul_pos (by omega) p
  have sS : Sm 46 ((fr b.dr).1 * (fr b.sh).2) := bd.n.mul bs.d
  have main : (b.dr = 0 → b.sh = 0) → WSs (XC P w K mg base n_law_turn "_law_turn" s_law_turn f cdv A outer s H E) ⟨M, H, []⟩ [.val (bD b), .val (.int (4 * (fr b.sh).1 * (fr b.dr).2)), .val (.int ((fr b.dr).1 * (fr b.sh).2)), .no, .no, .no] ((defBody s_law_turn).drop 2) { nx := fun _ => Kp .non, rt := Kp } := by
    intro hz
    obtain ⟨T, tT, T2⟩ := Trn.ex hb hz
    have kT := k2 hz T tT T2
    have t1 := tT.h1
    have less : ∀ h : Int, 1 ≤ h → ((fr b.dr).1 * (fr b.sh).2 * h * (h + 1) < 4 * (fr b.sh).1 * (fr b.dr).2 ↔ h < T) := fun h h1 => by
      have := tT.iff hb.d1 h1
      rw [Int.mul_assoc ((fr b.dr).1 * (fr b.sh).2) h (h + 1), turn_iff]
      omega
    refine wss_cons (ws_asg (w_tup (wa_cons (w_int (wa_cons (w_int (wa_nil ⟨by show 2 ≤ 1000; decide, wg_tup (wgs_cons fun _ => wg_name 3 (wgs_cons fun _ => wg_name 4 (wgs_nil ?_) nd) nd) rfl⟩)))))))
    refine wss_cons (ws_while (fun m G => ∃ l h : Int, G = [.val (bD b), .val (.int (4 * (fr b.sh).1 * (fr b.dr).2)), .val (.int ((fr b.dr).1 * (fr b.sh).2)), .val (.int l), .val (.int h), .no] ∧ 0 ≤ l ∧ l < T ∧ l < h ∧ h ≤ 400 ∧ m = (4000 - h).toNat) _ ⟨0, 1, rfl, by omega, by omega, by omega, by omega, rfl⟩ ?_)
    rintro m G ⟨l, h, rfl, g1, g2, g3, g4, rfl⟩
    refine wt_lt (w_mul (w_mul (w_v 2 rfl (w_v 4 rfl ⟨_, _, rfl, rfl, mulOk sS (Sm.of (a := 12) 4000 (by omega)), w_add (w_v 4 rfl (w_int ⟨_, _, rfl, rfl, ?_⟩))⟩))))
    refine ⟨_, _, rfl, rfl, mulOk (sS.mul (Sm.of (a := 12) (x := h) 4000 (by omega))) (Sm.of (a := 13) 4001 (by omega)), w_v 1 rfl ⟨_, _, rfl, rfl, fun hy => ?_, fun hy => ?_⟩⟩
    · have hy := (less h (by omega)).mp (of_decide_eq_true hy)
      refine wss_one (ws_par2 3 4 (w_v 4 rfl (w_mul (w_v 4 rfl (w_int ⟨_, _, rfl, rfl, mulOk (Sm.of (a := 12) 4000 (by omega)) (Sm.of (a := 2) 2 (by decide)), ?_⟩)))) nd)
      exact ⟨_, (by omega : (4000 - h * 2).toNat < (4000 - h).toNat), h, h * 2, rfl, by omega, by omega, by omega, by omega, rfl⟩
    · have hy : T ≤ h := by
        have := (not_congr (less h (by omega))).mp (of_decide_eq_false hy)
        omega
      refine wss_cons (ws_while (fun m G => ∃ (l h : Int) (o : SD), G = [.val (bD b), .val (.int (4 * (fr b.sh).1 * (fr b.dr).2)), .val (.int ((fr b.dr).1 * (fr b.sh).2)), .val (.int l), .val (.int h), o] ∧ 0 ≤ l ∧ l < T ∧ T ≤ h ∧ h ≤ 4000 ∧ m = (h - l).toNat) _ ⟨l, h, _, rfl, by omega, by omega, by omega, by omega, rfl⟩ ?_)
      rintro m G ⟨l, h, o, rfl, a1, a2, a3, a4, rfl⟩
      refine wt_gt (w_sub (w_v 4 rfl (w_v 3 rfl ⟨_, _, rfl, rfl, w_int ⟨_, _, rfl, rfl, fun hz => ?_, fun hz => ?_⟩⟩)))
      · have hz : 1 < h - l := of_decide_eq_true hz
        refine wss_cons (ws_set 5 (w_div (w_add (w_v 3 rfl (w_v 4 rfl ⟨_, _, rfl, rfl, w_int ⟨_, _, rfl, rfl, divOk (by decide) (Sm.of (a := 2) 2 (by decide)), ?_⟩⟩)))) nd)
        refine wss_one (ws_if (wt_lt (w_mul (w_mul (w_v 2 rfl (w_v 5 rfl ⟨_, _, rfl, rfl, mulOk sS (Sm.of (a := 12) 4000 (by omega)), w_add (w_v 5 rfl (w_int ⟨_, _, rfl, rfl, ?_⟩))⟩))))))
        refine ⟨_, _, rfl, rfl, mulOk (sS.mul (Sm.of (a := 12) (x := (l + h) / 2) 4000 (by omega))) (Sm.of (a := 13) 4001 (by omega)), w_v 1 rfl ⟨_, _, rfl, rfl, fun hy => ?_, fun hy => ?_⟩⟩
        · have hy := (less _ (by omega)).mp (of_decide_eq_true hy)
          refine wss_one (ws_set 3 (w_v 5 rfl ?_) nd)
          exact ⟨_, (by omega : (h - (l + h) / 2).toNat < (h - l).toNat), (l + h) / 2, h, _, rfl, by omega, by omega, by omega, by omega, rfl⟩
        · have hy := (not_congr (less _ (by omega))).mp (of_decide_eq_false hy)
          refine wss_one (ws_set 4 (w_v 5 rfl ?_) nd)
          exact ⟨_, (by omega : ((l + h) / 2 - l).toNat < (h - l).toNat), l, (l + h) / 2, _, rfl, by omega, by omega, by omega, by omega, rfl⟩
      · have hz : ¬ 1 < h - l := of_decide_eq_false hz
        obtain rfl : h = T := by omega
        exact wss_one (ws_ret (w_v 4 rfl kT))
  refine wss_cons (ws_if (wt_and (wt_eq (w_v 2 rfl (w_int ⟨_, _, rfl, rfl, fun hz => ?_, fun hz => ⟨fun z => (by cases z), fun _ => wss_nil ?_⟩⟩)))))
  · have d0 : b.dr = 0 := step0.mp (of_decide_eq_true hz)
    refine wt_gt (w_v 1 rfl (w_int ⟨_, _, rfl, rfl, fun hy => ?_, fun hy => wss_nil ?_⟩))
    · exact wss_one (ws_ret (w_non (k1 d0 (need0.mp (of_decide_eq_true hy)))))
    · refine main fun _ => ?_
      have := (not_congr need0).mp (of_decide_eq_false hy)
      omega
  · have d0 : b.dr ≠ 0 := fun z => absurd (step0.mpr z) (of_decide_eq_false hz)
    exact main fun z => absurd z d0
/-- the least with the leads behind c -/
def F_lead : Md → List D → (D → Prop) → Prop := fun M ds K => ∃ (b : Pm) (c T : Int) (q : Int × Int) (dv : Option (Int × Int)), ds = [bD b, .int c, dO dv] ∧ b.Ok ∧ Trn b T ∧ T ≤ 1000 ∧ PullOk b q ∧ 0 ≤ c ∧ c ≤ 10000 ∧ IV b T q c dv ∧ ∀ v, Bq 70 v → lef v q → K (pr v)
theorem ok_lead (B : Bt mg) (d : Df K mg "_law_lead_strain" s_law_lead_strain ["_law_bounds", "_law_cells_here", "_law_least"]) (gp : FnR P w K mg base "_law_phi" 4 F_phi) (gb : FnR P w K mg base "_law_is_below" 1 F_below) : FnR P w K mg base "_law_lead_strain" 5 F_lead := by
  refine fnD d sc_law_lead_strain (by rintro M ds Kp ⟨a, b, c, d, e, rfl, _⟩; rfl) fun f cdv A outer s H E M Kp ds hr h => ?_
  obtain ⟨b, c, T, q, dv, rfl, hb, hT, T2, hq, c0, c1, iv, k⟩ := h
  have nd := sc_law_lead_strain.nd
  have k1 := hb.l1
  have k2 := hb.lK
  have k3 := hb.K2
  have p1 := hb.p1
  have p2 := hb.p2
  refine wss_cons (ws_for (wi_range2 B.range (w_int (w_add (w_ix (w_v 0 rfl (w_int ⟨_, _, _, .inl rfl, rfl, rfl, w_int ⟨_, _, rfl, rfl, _, _, rfl, rfl, by omega, by omega, by omega, by omega, fun Zs => ?_⟩⟩)))))))
  refine ⟨fun i G => ∃ dv o1 o2, G = [.val (bD b), .val (.int c), .val (dO dv), o1, o2] ∧ IV b T q (c + i * b.K) dv, ⟨dv, _, _, rfl, ?_⟩, ?_, ?_⟩
  · rw [show c + ((0 : Nat) : Int) * b.K = c by simp]; exact iv
  · rintro i G hi ⟨dv, o1, o2, rfl, iv⟩
    have hi2 : (i : Int) < b.p := by omega
    have e1 : (i : Int) * b.K ≤ 100 * 100 := Int.mul_le_mul (by omega) k3 (by omega) (by omega)
    have e2 : (1 + (i : Int)) * b.K = i * b.K + b.K := by grind
    have e0 : 0 ≤ (i : Int) * b.K := Int.mul_nonneg (by omega) (by omega)
    have e3 : c + ((i + 1 : Nat) : Int) * b.K = c + (i : Int) * b.K + b.K := by grind
    have st := IV_step hb hT hq iv k2 (Int.le_refl _) (by omega) T2
    have e4 : c + (1 + (i : Int)) * b.K = c + (i : Int) * b.K + b.K := by grind
    refine wg_name 3 ?_ nd
    refine wss_cons (ws_set 4 (w_call gp hr (wa_cons (w_v 0 rfl (wa_cons (w_add (w_v 1 rfl (w_mul (w_v 3 rfl (w_ix (w_v 0 rfl (w_int ⟨_, _, _, .inl rfl, rfl, rfl, _, _, rfl, rfl, mulOk (Sm.of (a := 8) 101 (by omega)) (sm7 (by omega) k3), _, _, rfl, rfl, ?_⟩))))))))))) nd)
    refine wa_nil ⟨b, _, rfl, hb, by omega, by omega, rfl, ?_⟩
    rw [e4]
    have bits := hb.bp (t := c + (i : Int) * b.K + b.K) (by omega) (by omega)
    refine wss_one (ws_set 2 (w_if (wt_or (wt_isN (w_v 2 rfl ⟨fun z => ⟨fun _ => w_v 4 rfl ⟨some _, _, _, rfl, ?_⟩, fun z2 => by cases z2⟩, fun z => ?_⟩)))) nd)
    · cases dv with
      | none => rw [e3]; exact st
      | some v => cases z
    · cases dv with
      | none => cases z
      | some v =>
        have bv : Bq 70 v := iv.2.1
        refine wt_val (w_call gb (hr.mono (by decide)) (wa_cons (w_v 4 rfl (wa_cons (w_v 2 rfl (wa_nil ⟨_, v, rfl, bits.mono (by decide), bv.mono (by decide), rfl, _, rfl, fun hy => ?_, fun hy => ?_⟩))))))
        · have hy := of_decide_eq_true hy
          refine w_v 4 rfl ⟨some _, _, _, rfl, ?_⟩
          rw [e3]
          unfold lsO at st
          dsimp only at st
          rw [if_pos hy] at st
          exact st
        · have hy := of_decide_eq_false hy
          refine w_v 2 rfl ⟨some v, _, _, rfl, ?_⟩
          rw [e3]
          unfold lsO at st
          dsimp only at st
          rw [if_neg hy] at st
          exact st
  · rintro G ⟨dv, o1, o2, rfl, iv⟩
    refine wss_one (ws_ret (w_v 2 rfl ?_))
    have e1 : (b.p + 1 - 1).toNat = b.p := by omega
    rw [show (((b.p + 1 - 1).toNat : Nat) : Int) = b.p by omega] at iv
    have m1 : 1 * 1 ≤ b.p * b.K := Int.mul_le_mul p1 (by omega) (by omega) (by omega)
    have m2 : b.p * b.K ≤ 100 * 100 := Int.mul_le_mul p2 k3 (by omega) (by omega)
    cases dv with
    | none =>
      have z : c + b.p * b.K = 0 := iv
      omega
    | some v => exact k v iv.2.1 (IV_end hb hT hq c0 iv (by omega))
end
end FL
end
section
set_option Elab.async false
set_option linter.all false
set_option maxRecDepth 100000
set_option pp.maxSteps 600
/-! The law's pull and is_sure. -/
namespace FL
open PySem PySem.Spec PyProof.Rows L2 FM
theorem lookD_map1 {k : Int} {d e : D} : ∀ {kvs : List (Int × D)}, lookD (kvs.map fun kv => if kv.1 = k then (kv.1, d) else kv) k = some e → e = d
  | [], h => by simp [lookD] at h
  | p :: kvs, h => by
    by_cases z : p.1 = k
    · simp [lookD, z] at h
      exact h.symm
    · refine lookD_map1 (k := k) (kvs := kvs) ?_
      simpa [lookD, List.find?_cons, z] using h
theorem lookD_map2 {k c : Int} {d e : D} (q : ¬ c = k) : ∀ {kvs : List (Int × D)}, lookD (kvs.map fun kv => if kv.1 = k then (kv.1, d) else kv) c = some e → lookD kvs c = some e
  | [], h => by simp [lookD] at h
  | p :: kvs, h => by
    have ih := fun h => lookD_map2 (k := k) (d := d) (e := e) q (kvs := kvs) h
    by_cases z : p.1 = k
    · have n : ¬ p.1 = c := fun y => q (y.symm.trans z)
      have n2 : ¬ k = c := fun y => q y.symm
      have h2 : lookD (kvs.map fun kv => if kv.1 = k then (kv.1, d) else kv) c = some e := by simpa [lookD, List.find?_cons, z, n2] using h
      have := ih h2
      simpa [lookD, List.find?_cons, n] using this
    · by_cases y : p.1 = c
      · have e1 : (if p.1 = k then (p.1, d) else p) = p := if_neg z
        rw [List.map_cons, e1] at h
        simpa [lookD, List.find?_cons, y] using h
      · have e1 : (if p.1 = k then (p.1, d) else p) = p := if_neg z
        rw [List.map_cons, e1] at h
        have h2 : lookD (kvs.map fun kv => if kv.1 = k then (kv.1, d) else kv) c = some e := by simpa [lookD, List.find?_cons, y] using h
        have := ih h2
        simpa [lookD, List.find?_cons, y] using this
theorem lookD_app1 {k : Int} {d e : D} : ∀ {kvs : List (Int × D)}, ¬ (kvs.any fun kv => decide (kv.1 = k)) = true → lookD (kvs ++ [(k, d)]) k = some e → e = d
  | [], _, h => by simp [lookD] at h; exact h.symm
  | p :: kvs, n, h => by
    simp only [List.any_cons, Bool.or_eq_true, decide_eq_true_eq, not_or] at n
    refine lookD_app1 (k := k) (kvs := kvs) n.2 ?_
    simpa [lookD, List.find?_cons, n.1] using h
theorem lookD_app2 {k c : Int} {d e : D} (q : ¬ c = k) : ∀ {kvs : List (Int × D)}, lookD (kvs ++ [(k, d)]) c = some e → lookD kvs c = some e
  | [], h => by simp [lookD, show ¬ k = c from fun y => q y.symm] at h
  | p :: kvs, h => by
    by_cases y : p.1 = c
    · simpa [lookD, List.find?_cons, y] using h
    · have := lookD_app2 (kvs := kvs) q (by simpa [lookD, List.find?_cons, y] using h)
      simpa [lookD, List.find?_cons, y] using this
theorem lookD_put {kvs : List (Int × D)} {k : Int} {d : D} {c : Int} {e : D} (h : lookD (putD kvs k d) c = some e) : (c = k ∧ e = d) ∨ lookD kvs c = some e := by
  unfold putD at h
  split at h
  · by_cases q : c = k
    · subst q
      exact .inl ⟨rfl, lookD_map1 h⟩
    · exact .inr (lookD_map2 q h)
  · rename_i n
    by_cases q : c = k
    · subst q
      exact .inl ⟨rfl, lookD_app1 n h⟩
    · exact .inr (lookD_app2 q h)
theorem putD_len {kvs : List (Int × D)} {k : Int} {d : D} : (putD kvs k d).length ≤ kvs.length + 1 := by
  unfold putD
  split
  · rw [List.length_map]; omega
  · rw [List.length_append]; exact Nat.le_refl _
def blkOf : Stmt → List Stmt
  | .For _ _ b _ _ => b
  | .While _ b _ _ => b
  | .If _ b _ _ => b
  | _ => []
/-- the block in the i-th statement -/
def inB (l : List Stmt) (i : Nat) : List Stmt := blkOf (l.getD i (.Pass ⟨0, 0, 0, 0⟩))
/-- what the dict knows -/
def Kn (b : Pm) (T : Int) (q : Int × Int) (kvs : List (Int × D)) : Prop := ∀ c d, lookD kvs c = some d → ∃ dv, d = dO dv ∧ IV b T q c dv
theorem Kn.put {b : Pm} {T : Int} {q : Int × Int} {kvs : List (Int × D)} {c : Int} {v : Int × Int} (h : Kn b T q kvs) (iv : IV b T q c (some v)) : Kn b T q (putD kvs c (pr v)) := fun k d e => by
  rcases lookD_put e with ⟨rfl, rfl⟩ | e
  · exact ⟨some v, rfl, iv⟩
  · exact h k d e
theorem wt_dninOwn {X : Cx} {C : Cn} {G : List SD} {KT : Bool → Prop} {b : Expr} {pos : Pos} {x : Str} (i : Nat) {kvs : List (Int × D)} {p1 : Pos} (hu : X.A.units + 1 < cLine) (g : G[i]? = some (.dic kvs)) (h : W X C G b fun db => ∃ j, db = .int j ∧ KT (!(lookD kvs j).isSome)) (hN : X.N[i]? = some x := by rfl) (hv : Vis X.env.scope x := by first | exact Or.inl rfl | exact Or.inr (Or.inl rfl) | exact Or.inr (Or.inr rfl)) (hd : (x == ("__debug__" : Str)) = false := by decide)
    (hcd : (x == ("__classdict__" : Str)) = false := by decide) : WT X C G (.Compare b [.NotIn] [.Name x p1] pos) KT := fun A σ H E Q q => by
  refine toT (pt_cmp (pc_dnotin hu pwE (pv i hN hv hd hcd)) rfl) ?_
  refine h A σ H E _ fun db v H2 r j hh k => ?_
  obtain ⟨jj, rfl, k⟩ := k
  obtain rfl : v = .int jj := hh
  obtain ⟨e1, ks, e3, e4, hL2⟩ := (E.go j r).sl i _ g
  refine ⟨_, e1, A i, _, rfl, DGet.k (k := Sum.inl jj) e3, _, rfl, ?_⟩
  have : (lookD kvs jj).isSome = (valV ks (Sum.inl jj : Key)).isSome := by
    rcases lookD_rel jj e4 hL2 with ⟨z, z2⟩ | ⟨d', v', z1, z2, z3⟩
    · rw [z, z2] <;> rfl
    · rw [z1, z2] <;> rfl
  rw [this] at k
  exact q _ H2 r j k
theorem imm_dO {dv : Option (Int × Int)} : imm (dO dv) = true := by cases dv <;> rfl
section
variable {P : Program} {w : World} {K : PySem.W.Frag} {mg : Str → Option Value} {base : Heap}
def F_lpull : Md → List D → (D → Prop) → Prop := fun M ds K => ∃ (b : Pm) (q : Int × Int), ds = [bD b] ∧ b.Ok ∧ (∀ T, Trn b T → T ≤ 40) ∧ PullOk b q ∧ ∀ v, Bq 70 v → lef v q → K (pr v)
theorem ok_lpull (B : Bt mg) (d : Df K mg "_law_pull" s_law_pull ["_law_bounds"]) (gt : FnR P w K mg base "_law_turn" 1 F_lturn) (gp : FnR P w K mg base "_law_phi" 4 F_phi) (gb : FnR P w K mg base "_law_is_below" 1 F_below) (gl : FnR P w K mg base "_law_lead_strain" 5 F_lead) : FnR P w K mg base "_law_pull" 6 F_lpull := by
  refine fnD d sc_law_pull (by rintro M ds Kp ⟨a, b, rfl, _⟩; rfl) fun f cdv A outer s H E M Kp ds hr h => ?_
  obtain ⟨b, q, rfl, hb, hT40, hq, k⟩ := h
  have nd := sc_law_pull.nd
  have k1 := hb.l1
  have k2 := hb.lK
  have k3 := hb.K2
  have p1 := hb.p1
  have p2 := hb.p2
  have m1 : 1 * 1 ≤ b.p * b.K := Int.mul_le_mul p1 (by omega) (by omega) (by omega)
  have m2 : b.p * b.K ≤ 100 * 100 := Int.mul_le_mul p2 k3 (by omega) (by omega)
  have h4 : Room 4 (XC P w K mg base n_law_pull "_law_pull" s_law_pull f cdv A outer s H E).A := hr.mono (by decide)
  have h1 : Room 1 (XC P w K mg base n_law_pull "_law_pull" s_law_pull f cdv A outer s H E).A := hr.mono (by decide)
  have hu : (XC P w K mg base n_law_pull "_law_pull" s_law_pull f cdv A outer s H E).A.units + 1 < cLine := Nat.lt_of_le_of_lt (Nat.add_le_add_left (by decide : 1 ≤ 64) _) hr.units
  refine wss_cons (ws_set 1 (w_call gt h1 (wa_cons (w_v 0 rfl (wa_nil ⟨b, rfl, hb, fun z1 z2 => ⟨rfl, ?_⟩, fun hz T tT T2 => ⟨rfl, ?_⟩⟩)))) nd)
  · refine wss_cons (ws_if (wt_isN (w_v 1 rfl ⟨fun _ => ?_, fun z => by cases z⟩)))
    refine wss_one (ws_ret (w_call gp h4 (wa_cons (w_v 0 rfl (wa_cons (w_mul (w_ix (w_v 0 rfl (w_int ⟨_, _, _, .inl rfl, rfl, rfl, w_ix (w_v 0 rfl (w_int ⟨_, _, _, .inl rfl, rfl, rfl, _, _, rfl, rfl, mulOk (sm7 (by omega) p2) (sm7 (by omega) k3), ?_⟩))⟩)))))))))
    exact wa_nil ⟨b, _, rfl, hb, by omega, by omega, rfl, k _ (hb.bp (by omega) (by omega)) (hq.no z1 z2)⟩
  · have T40 := hT40 T tT
    have t1 := tT.h1
    refine wss_cons (ws_if (wt_isN (w_v 1 rfl ⟨fun z => (by cases z), fun _ => wss_nil ?_⟩)))
    refine wss_cons (ws_if (wt_gt (w_v 1 rfl (w_int ⟨_, _, rfl, rfl, fun z => absurd (of_decide_eq_true z) (by omega), fun _ => wss_nil ?_⟩))))
    refine wss_cons (ws_set 2 (w_add (w_v 1 rfl (w_ix (w_v 0 rfl (w_int ⟨_, _, _, .inl rfl, rfl, rfl, _, _, rfl, rfl, ?_⟩))))) nd)
    refine wss_cons (ws_par2D 3 4 (w_call gl hr (wa_cons (w_v 0 rfl (wa_cons (w_int (wa_cons (w_non ?_))))))) nd)
    refine wa_nil ⟨b, 0, T, q, none, rfl, hb, tT, by omega, hq, by omega, by omega, rfl, fun v0 v1 v2 => ⟨rfl, ?_⟩⟩
    refine wss_cons (ws_for (wi_range2 B.range (w_int (w_add (w_v 2 rfl (w_int ⟨_, _, rfl, rfl, _, _, rfl, rfl, by omega, by omega, by omega, by omega, fun Zs => ?_⟩))))))
    refine ⟨fun i G => ∃ (v : Int × Int) (kvs : List (Int × D)) (o1 o2 o3 o4 o5 : SD), G = [.val (bD b), .val (.int T), .val (.int (T + b.K)), .val (pr v), .dic kvs, o1, o2, o3, o4, o5] ∧ Bq 70 v ∧ lef v q ∧ kvs.length ≤ 1 + 200 * i ∧ Kn b T q kvs, ⟨v0, [(0, .non)], _, _, _, _, _, rfl, v1, v2, by simp, fun c d e => ?_⟩, ?_, ?_⟩
    · by_cases z : c = 0
      · subst z
        have : D.non = d := by simpa [lookD] using e
        exact ⟨none, this.symm, rfl⟩
      · simp [lookD, show ¬ (0 : Int) = c from fun y => z y.symm] at e
    · rintro i G hi ⟨v, kvs, o1, o2, o3, o4, o5, rfl, bv, lv, hk, kn⟩
      have hi2 : (i : Int) < T + b.K := by omega
      refine wg_name 5 ?_ nd
      have bits := hb.bp (t := 1 + (i : Int)) (by omega) (by omega)
      refine wss_cons (ws_set 6 (w_call gp h4 (wa_cons (w_v 0 rfl (wa_cons (w_v 5 rfl (wa_nil ⟨b, _, rfl, hb, by omega, by omega, rfl, ?_⟩)))))) nd)
      have emin : (if b.K > 1 + (i : Int) then 1 + (i : Int) else b.K) = (if 1 + (i : Int) < b.K then 1 + (i : Int) else b.K) := rfl
      refine wss_cons (ws_for (wi_range2 B.range (w_ix (w_v 0 rfl (w_int ⟨_, _, _, .inl rfl, rfl, rfl, w_add (w_min2 rfl B.min (w_ix (w_v 0 rfl (w_int ⟨_, _, _, .inl rfl, rfl, rfl, w_v 5 rfl ⟨_, _, rfl, rfl, w_int ⟨_, _, rfl, rfl, _, _, rfl, rfl, ?_, ?_, ?_, ?_, fun Zs2 => ?_⟩⟩⟩))))⟩)))))
      · omega
      · omega
      · split <;> omega
      · split <;> omega
      refine ⟨fun j G => ∃ (kvs : List (Int × D)) (o3 o4 o5 : SD), G = [.val (bD b), .val (.int T), .val (.int (T + b.K)), .val (pr v), .dic kvs, .val (.int (1 + i)), .val (pr (ph b.dr b.sh (1 + i))), o3, o4, o5] ∧ kvs.length ≤ 1 + 200 * i + j ∧ Kn b T q kvs, ⟨kvs, _, _, _, rfl, by omega, kn⟩, ?_, ?_⟩
      · rintro j G hj ⟨kvs, o3, o4, o5, rfl, hk, kn⟩
        have hj2 : b.lo + (j : Int) ≤ b.K ∧ b.lo + (j : Int) ≤ 1 + i := by
          split at hj <;> omega
        refine wg_name 7 ?_ nd
        refine wss_one (ws_if (wt_dinOwn 4 hu rfl (w_sub (w_v 5 rfl (w_v 7 rfl ⟨_, _, rfl, rfl, _, rfl, fun hz => ?_, fun _ => wss_nil ⟨kvs, _, _, _, rfl, by omega, kn⟩⟩)))))
        obtain ⟨dd, hdd⟩ := Option.isSome_iff_exists.mp hz
        obtain ⟨dv, rfl, iv⟩ := kn _ _ hdd
        have st := IV_step hb tT hq iv (r := b.lo + j) (by omega) (by omega) (by omega) (by omega)
        rw [show 1 + (i : Int) - (b.lo + j) + (b.lo + j) = 1 + i by omega] at st
        refine wss_cons (ws_set 8 (w_dgetOwn 4 hu rfl (w_sub (w_v 5 rfl (w_v 7 rfl ⟨_, _, rfl, rfl, _, _, rfl, hdd, ?_⟩)))) nd)
        have rest : ∀ (KS : KD), (∀ (kvs : List (Int × D)) (o3 o4 o5 : SD), kvs.length ≤ 1 + 200 * i + (j + 1) → Kn b T q kvs → KS.nx [.val (bD b), .val (.int T), .val (.int (T + b.K)), .val (pr v), .dic kvs, .val (.int (1 + i)), .val (pr (ph b.dr b.sh (1 + i))), o3, o4, o5]) → ∀ (ls : Int × Int), IV b T q (1 + i) (some ls) → ∀ o8, WSs (XC P w K mg base n_law_pull "_law_pull" s_law_pull f cdv A outer s H E) ((Cn.ghs ⟨M, H, []⟩ Zs).ghs Zs2) [.val (bD b), .val (.int T), .val (.int (T + b.K)), .val (pr v), .dic kvs, .val (.int (1 + i)), .val (pr (ph b.dr b.sh (1 + i))), .val (.int (b.lo + j)), o8, .val (pr ls)]
            (inB (inB (inB (defBody s_law_pull) 5) 1) 0 |>.drop 2) KS := by
          intro KS hn ls lv o8
          have bl : Bq 70 ls := lv.2.1
          have put : WSs (XC P w K mg base n_law_pull "_law_pull" s_law_pull f cdv A outer s H E) ((Cn.ghs ⟨M, H, []⟩ Zs).ghs Zs2) [.val (bD b), .val (.int T), .val (.int (T + b.K)), .val (pr v), .dic kvs, .val (.int (1 + i)), .val (pr (ph b.dr b.sh (1 + i))), .val (.int (b.lo + j)), o8, .val (pr ls)]
            (inB (inB (inB (inB (defBody s_law_pull) 5) 1) 0) 2) KS := by
            refine wss_one (ws_dputOwn 4 hu rfl (by omega) (w_v 9 rfl (w_v 5 rfl ⟨rfl, _, rfl, hn (putD kvs (1 + i) (pr ls)) _ _ _ ?_ (kn.put lv)⟩)))
            have := putD_len (kvs := kvs) (k := 1 + (i : Int)) (d := pr ls)
            omega
          refine wss_one (ws_if (wt_or (wt_dninOwn 4 hu rfl (w_v 5 rfl ⟨_, rfl, fun _ => ⟨fun _ => put, fun z => by cases z⟩, fun hz => ?_⟩))))
          have hs : (lookD kvs (1 + (i : Int))).isSome = true := by simpa using hz
          obtain ⟨dd, hdd⟩ := Option.isSome_iff_exists.mp hs
          obtain ⟨dv, rfl, iv2⟩ := kn _ _ hdd
          cases dv with
          | none =>
            have z : 1 + (i : Int) = 0 := iv2
            omega
          | some u =>
            have bu : Bq 70 u := iv2.2.1
            refine wt_val (w_call gb h1 (wa_cons (w_dgetOwn 4 hu rfl (w_v 5 rfl ⟨_, _, rfl, hdd, wa_cons (w_v 9 rfl (wa_nil ⟨u, ls, rfl, bu.mono (by decide), bl.mono (by decide), rfl, _, rfl, fun _ => put, fun _ => wss_nil (hn kvs _ _ _ (by omega) kn)⟩))⟩))))
        refine wss_cons (ws_set 9 (w_if (wt_or (wt_isN (w_v 8 rfl ⟨fun z => ⟨fun _ => w_v 6 rfl (rest _ (by intro kvs o3 o4 o5 z1 z2; exact ⟨kvs, o3, o4, o5, rfl, by omega, z2⟩) _ ?_ _), fun z2 => by cases z2⟩, fun z => ?_⟩)))) nd)
        · cases dv with
          | none => exact st
          | some v => cases z
        · cases dv with
          | none => cases z
          | some u =>
            have bu : Bq 70 u := iv.2.1
            unfold lsO at st
            dsimp only at st
            refine wt_val (w_call gb h1 (wa_cons (w_v 6 rfl (wa_cons (w_v 8 rfl (wa_nil ⟨_, u, rfl, bits.mono (by decide), bu.mono (by decide), rfl, _, rfl, fun hy => ?_, fun hy => ?_⟩))))))
            · have hy := of_decide_eq_true hy
              rw [if_pos hy] at st
              exact w_v 6 rfl (rest _ (by intro kvs o3 o4 o5 z1 z2; exact ⟨kvs, o3, o4, o5, rfl, by omega, z2⟩) _ st _)
            · have hy := of_decide_eq_false hy
              rw [if_neg hy] at st
              exact w_v 8 rfl (rest _ (by intro kvs o3 o4 o5 z1 z2; exact ⟨kvs, o3, o4, o5, rfl, by omega, z2⟩) _ st _)
      · rintro G ⟨kvs, o3, o4, o5, rfl, hk, kn⟩
        have hk2 : kvs.length ≤ 1 + 200 * (i + 1) := by
          revert hk
          split <;> omega
        refine wss_one (ws_if (wt_dinOwn 4 hu rfl (w_v 5 rfl ⟨_, rfl, fun hz => ?_, fun _ => wss_nil ⟨v, kvs, _, _, _, _, _, rfl, bv, lv, hk2, kn⟩⟩)))
        obtain ⟨dd, hdd⟩ := Option.isSome_iff_exists.mp hz
        obtain ⟨dv, rfl, iv⟩ := kn _ _ hdd
        refine wss_cons (ws_set 9 (w_call gl hr (wa_cons (w_v 0 rfl (wa_cons (w_v 5 rfl (wa_cons (w_dgetOwn 4 hu rfl (w_v 5 rfl ⟨_, _, rfl, hdd, ?_⟩)))))))) nd)
        refine wa_nil ⟨b, _, T, q, dv, rfl, hb, tT, by omega, hq, by omega, by omega, iv, fun u u1 u2 => ⟨rfl, ?_⟩⟩
        refine wss_one (ws_set 3 (w_if (wt_val (w_call gb h1 (wa_cons (w_v 3 rfl (wa_cons (w_v 9 rfl (wa_nil ⟨v, u, rfl, bv.mono (by decide), u1.mono (by decide), rfl, _, rfl, fun _ => ?_, fun _ => ?_⟩)))))))) nd)
        · exact w_v 9 rfl ⟨u, kvs, _, _, _, _, _, rfl, u1, u2, hk2, kn⟩
        · exact w_v 3 rfl ⟨v, kvs, _, _, _, _, _, rfl, bv, lv, hk2, kn⟩
    · rintro G ⟨v, kvs, o1, o2, o3, o4, o5, rfl, bv, lv, hk, kn⟩
      exact wss_one (ws_ret (w_v 3 rfl (k v bv lv)))
end
end FL
end
section
set_option Elab.async false
set_option linter.all false
set_option maxRecDepth 100000
set_option pp.maxSteps 600
/-! is_sure. -/
namespace FL
open PySem PySem.Spec PyProof.Rows L2 FM
def lnd (b : Pm) (r : Int) (v : Int × Int) : Int × Int := add (add (many (fr b.sh) 4) (many v r)) (many (fr b.dr) (r * (r + 1)))
theorem lnd_V {b : Pm} {r : Int} {q : Int × Int} (hq : 0 < q.2) : V (lnd b r q) ((4 * b.sh + b.dr * (r * (r + 1))) * q.2 + 360 * (r * q.1)) (360 * q.2) := by
  have v := (((V.fr b.sh).many 4).add ((show V q q.1 q.2 from ⟨hq, hq, by grind⟩).many r)).add ((V.fr b.dr).many (r * (r + 1)))
  exact v.to (by omega) (by grind)
theorem lnd_Bq {b : Pm} (hb : b.Ok) {r : Int} {q : Int × Int} (h1 : 0 ≤ r) (h2 : r ≤ 100) (hq : Bq 70 q) : Bq 160 (lnd b r q) := by
  have s1 : Sm 7 r := sm7 h1 h2
  have s2 : Sm 8 (r + 1) := Sm.of 101 (by omega)
  exact (((hb.bs.many small4).add (hq.many s1)).add (hb.bd.many (s1.mul s2))).mono (by decide)
theorem sure_lnd {b : Pm} {q v : Int × Int} (hr : 0 ≤ b.K - 1) (hq : 0 < q.2) (hv : 0 < v.2) (h : Sure b q) (l : lef v q) : 0 < (sub (1 * b.cell, 1) (lnd b (b.K - 1) v)).1 := by
  have z := (V.one (1 * b.cell)).sub (lnd_V (b := b) (r := b.K - 1) hv)
  unfold Sure at h
  unfold lef at l
  generalize b.dr * ((b.K - 1) * (b.K - 1 + 1)) = X at h z
  have e := z.val
  have k1 : (b.K - 1) * (v.1 * q.2) ≤ (b.K - 1) * (q.1 * v.2) := Int.mul_le_mul_of_nonneg_left l hr
  have k2 := Int.mul_lt_mul_of_pos_right h hv
  have key : ((4 * b.sh + X) * v.2 + 360 * ((b.K - 1) * v.1)) * q.2 < 360 * (b.cell * v.2) * q.2 := by grind
  have key2 := Int.lt_of_mul_lt_mul_right key (Int.le_of_lt hq)
  have pos : 0 < 1 * b.cell * (360 * v.2) - ((4 * b.sh + X) * v.2 + 360 * ((b.K - 1) * v.1)) * 1 := by grind
  have m := Int.mul_pos pos z.pos
  rw [← e] at m
  exact Int.pos_of_mul_pos_left m z.dpos
section
variable {P : Program} {w : World} {K : PySem.W.Frag} {mg : Str → Option Value} {base : Heap}
def F_lneeded : Md → List D → (D → Prop) → Prop := fun M ds K => ∃ (b : Pm) (r : Int) (v : Int × Int), ds = [bD b, .int r, pr v] ∧ b.Ok ∧ 0 ≤ r ∧ r ≤ 100 ∧ Bq 70 v ∧ K (pr (lnd b r v))
theorem ok_lneeded (d : Df K mg "_law_needed" s_law_needed ["_law_bounds", "_law_run", "_law_most"]) (ga : FnR P w K mg base "_law_add" 3 F_added) (gm : FnR P w K mg base "_law_many" 3 F_many) : FnR P w K mg base "_law_needed" 4 F_lneeded := by
  refine fnD d sc_law_needed (by rintro M ds Kp ⟨a, b, c, rfl, _⟩; rfl) fun f cdv A outer s H E M Kp ds hr h => ?_
  obtain ⟨b, r, v, rfl, hb, r1, r2, bv, k⟩ := h
  have nd := sc_law_needed.nd
  have s1 : Sm 7 r := sm7 r1 r2
  have s2 : Sm 8 (r + 1) := Sm.of 101 (by omega)
  have bs := hb.bs
  have bd := hb.bd
  refine wss_cons (ws_set 3 (w_call ga hr (wa_cons (w_call gm hr (wa_cons (w_ix (w_v 0 rfl (w_int ⟨_, _, _, .inl rfl, rfl, rfl, wa_cons (w_int (wa_nil ⟨_, _, rfl, bs.mono (by decide), small4.mono (by decide), rfl, ?_⟩))⟩))))))) nd)
  refine wa_cons (w_call gm hr (wa_cons (w_v 2 rfl (wa_cons (w_v 1 rfl (wa_nil ⟨_, _, rfl, bv.mono (by decide), s1.mono (by decide), rfl, ?_⟩))))))
  refine wa_nil ⟨_, _, rfl, (bs.many small4).mono (by decide), (bv.many s1).mono (by decide), rfl, ?_⟩
  refine wss_one (ws_ret (w_call ga hr (wa_cons (w_v 3 rfl (wa_cons (w_call gm hr (wa_cons (w_ix (w_v 0 rfl (w_int ⟨_, _, _, .inl rfl, rfl, rfl, ?_⟩))))))))))
  refine wa_cons (w_mul (w_v 1 rfl (w_add (w_v 1 rfl (w_int ⟨_, _, rfl, rfl, _, _, rfl, rfl, mulOk s1 s2, ?_⟩)))))
  refine wa_nil ⟨_, _, rfl, bd.mono (by decide), (s1.mul s2).mono (by decide), rfl, ?_⟩
  exact wa_nil ⟨_, _, rfl, ((bs.many small4).add (bv.many s1)).mono (by decide), (bd.many (s1.mul s2)).mono (by decide), rfl, k⟩
def F_margin : Md → List D → (D → Prop) → Prop := fun M ds K => ∃ (b : Pm) (c r : Int) (q : Int × Int), ds = [bD b, .int c, .int r] ∧ b.Ok ∧ (∀ T, Trn b T → T ≤ 40) ∧ PullOk b q ∧ 0 ≤ r ∧ r ≤ 100 ∧ Sm 10 c ∧ ∀ v, Bq 70 v → lef v q → K (pr (sub (c * b.cell, 1) (lnd b r v)))
theorem ok_margin (d : Df K mg "_law_margin" s_law_margin ["_law_bounds", "_law_cells_here", "_law_run"]) (gl : FnR P w K mg base "_law_less" 3 (F_two sub)) (gn : FnR P w K mg base "_law_needed" 4 F_lneeded) (gp : FnR P w K mg base "_law_pull" 6 F_lpull) : FnR P w K mg base "_law_margin" 7 F_margin := by
  refine fnD d sc_law_margin (by rintro M ds Kp ⟨a, b, c, d, rfl, _⟩; rfl) fun f cdv A outer s H E M Kp ds hr h => ?_
  obtain ⟨b, c, r, q, rfl, hb, hT, hq, r1, r2, sc, k⟩ := h
  refine wss_one (ws_ret (w_call gl (hr.mono (by decide)) (wa_cons (w_pair (w_mul (w_v 1 rfl (w_ix (w_v 0 rfl (w_int ⟨_, _, _, .inl rfl, rfl, rfl, _, _, rfl, rfl, mulOk sc hb.c2, w_int ⟨_, _, rfl, rfl, ?_⟩⟩)))))))))
  refine wa_cons (w_call gn (hr.mono (by decide)) (wa_cons (w_v 0 rfl (wa_cons (w_v 2 rfl (wa_cons (w_call gp hr (wa_cons (w_v 0 rfl (wa_nil ⟨b, q, rfl, hb, hT, hq, fun v v1 v2 => ⟨rfl, ?_⟩⟩))))))))))
  exact wa_nil ⟨b, r, v, rfl, hb, r1, r2, v1, rfl, wa_nil ⟨_, _, rfl, (Bq1 (sc.mul hb.c2)).mono (by decide), (lnd_Bq hb r1 r2 v1).mono (by decide), rfl, k v v1 v2⟩⟩
def F_sure : Md → List D → (D → Prop) → Prop := fun M ds K => ∃ b : Pm, ds = [bD b] ∧ b.Ok ∧ (∀ T, Trn b T → T ≤ 40) ∧ (b.lo ≠ b.K → ∃ q, PullOk b q ∧ Sure b q) ∧ K (.bl true)
theorem ok_sure (d : Df K mg "_law_is_sure" s_law_is_sure ["_law_bounds"]) (gm : FnR P w K mg base "_law_margin" 7 F_margin) : FnR P w K mg base "_law_is_sure" 8 F_sure := by
  refine fnD d sc_law_is_sure (by rintro M ds Kp ⟨a, rfl, _⟩; rfl) fun f cdv A outer s H E M Kp ds hr h => ?_
  obtain ⟨b, rfl, hb, hT, hs, k⟩ := h
  have k1 := hb.l1
  have k2 := hb.lK
  have k3 := hb.K2
  refine wss_one (ws_ret (w_or (w_eq (w_ix (w_v 0 rfl (w_int ⟨_, _, _, .inl rfl, rfl, rfl, w_ix (w_v 0 rfl (w_int ⟨_, _, _, .inl rfl, rfl, rfl, _, _, rfl, rfl, _, rfl, fun _ => k, fun hz => ?_⟩))⟩))))))
  obtain ⟨q, hq, su⟩ := hs (of_decide_eq_false hz)
  refine w_gt (w_ix (w_call gm hr (wa_cons (w_v 0 rfl (wa_cons (w_int (wa_cons (w_sub (w_ix (w_v 0 rfl (w_int ⟨_, _, _, .inl rfl, rfl, rfl, w_int ⟨_, _, rfl, rfl, ?_⟩⟩)))))))))))
  refine wa_nil ⟨b, 1, _, q, rfl, hb, hT, hq, by omega, by omega, Sm.of 1 (by decide), fun v v1 v2 => ⟨rfl, w_int ⟨_, _, _, .inl rfl, rfl, rfl, w_int ⟨_, _, rfl, rfl, ?_⟩⟩⟩⟩
  rw [decide_eq_true (sure_lnd (by omega) hq.bq.pos v1.pos su v2)]
  exact k
end
end FL
end
section
set_option Elab.async false
set_option linter.all false
set_option maxRecDepth 100000
set_option pp.maxSteps 600
/-! The hearing. -/
namespace FL
open PySem PySem.Spec PyProof.Rows L2 FM
def blkB (N : List Str) (sc scope : Scope) (own : List (Str × Nat)) : Bool :=
  (scope.kind == .function) && scope.names.all (fun y => scope.names.lookup y.1 == some y.2) && own.all (fun p => N[p.2]? == some p.1) && scope.names.all (fun y => y.2 != .free || (sc.names.lookup y.1 == some .cell) || (sc.names.lookup y.1 == some .free)) &&
    scope.names.all (fun y => !(y.2 == .local || y.2 == .cell) || (own.map (·.1)).contains y.1 || !N.contains y.1)
theorem blk {N : List Str} {sc scope : Scope} {own : List (Str × Nat)} (h : blkB N sc scope own = true) : BlkOk N sc scope own := by
  unfold blkB at h
  simp only [Bool.and_eq_true, List.all_eq_true] at h
  obtain ⟨⟨⟨⟨h1, h2⟩, h3⟩, h4⟩, h5⟩ := h
  refine ⟨by simpa using h1, fun y hy => by simpa using h2 y hy, fun p hp => by simpa using h3 p hp, fun y hy e => ?_, fun y hy e => ?_⟩
  · have := h4 y hy
    rw [e] at this
    simpa using this
  · have := h5 y hy
    rcases e with e | e <;> (rw [e] at this; simpa using this)
def frs (xs : List Int) : List D := xs.map fun x => pr (fr x)
theorem imm_frs (xs : List Int) : immL (frs xs) = true := immL_iff.mpr fun d hd => by
  obtain ⟨x, _, rfl⟩ := List.mem_map.mp hd
  rfl
theorem frs_len {xs : List Int} : (frs xs).length = xs.length := List.length_map _
theorem nthD_map {α : Type} {f : α → D} {xs : List α} {i : Nat} (h : i < xs.length) : nthD (xs.map f) i = f xs[i] := by
  unfold nthD
  rw [List.getD_eq_getElem?_getD, List.getElem?_map, List.getElem?_eq_getElem h]
  rfl
def psum (m : Int) (ls : List Int) (j : Nat) : Int := m + (ls.take j).sum
theorem psum_succ {m : Int} {ls : List Int} {j : Nat} (h : j < ls.length) : psum m ls (j + 1) = psum m ls j + ls[j] := by
  unfold psum
  rw [List.take_succ_eq_append_getElem h, List.sum_append]
  simp
  omega
def momL (m : Int) (ls : List Int) (n : Nat) : List Int := (List.range n).map (psum m ls)
theorem momL_succ (m : Int) (ls : List Int) (n : Nat) : momL m ls (n + 1) = momL m ls n ++ [psum m ls n] := by
  unfold momL
  rw [List.range_succ, List.map_append]
  rfl
theorem momL_len (m : Int) (ls : List Int) (n : Nat) : (momL m ls n).length = n := by simp [momL]
theorem momL_get {m : Int} {ls : List Int} {n j : Nat} (h : j < n) : (momL m ls n)[j]? = some (psum m ls j) := by
  unfold momL
  rw [List.getElem?_map, List.getElem?_range h]
  rfl
section
variable {P : Program} {w : World} {K : PySem.W.Frag} {mg : Str → Option Value} {base : Heap}
def F_sums : Md → List D → (D → Prop) → Prop := fun M ds K => ∃ (m : Int) (ls : List Int), ds = [.tup [pr (fr m), .tup (frs ls)]] ∧ ls.length ≤ 1000 ∧ (∀ j, j ≤ ls.length → Sm 300 (psum m ls j)) ∧ (∀ l ∈ ls, Sm 300 l) ∧ K (.lst (frs (momL m ls (ls.length + 1))))
theorem ok_sums (d : Df K mg "_law_sums" s_law_sums ["_law_telling_here"]) (ga : FnR P w K mg base "_law_add" 3 F_added) : FnR P w K mg base "_law_sums" 4 F_sums := by
  refine fnD d sc_law_sums (by rintro M ds Kp ⟨a, b, rfl, _⟩; rfl) fun f cdv A outer s H E M Kp ds hr h => ?_
  obtain ⟨m, ls, rfl, hl, hm, hs, k⟩ := h
  have nd := sc_law_sums.nd
  refine wss_cons (ws_setLst 1 (wa_cons (w_ix (w_v 0 rfl (w_int ⟨_, _, pr (fr m), .inl rfl, rfl, rfl, wa_nil ⟨by show 1 ≤ 1000; decide, ?_⟩⟩)))) nd)
  refine wss_cons (ws_for (wi_tup (w_ix (w_v 0 rfl (w_int ⟨_, _, .tup (frs ls), .inl rfl, rfl, rfl, _, rfl, fun Zs => ?_⟩)))))
  refine ⟨fun i G => ∃ o, i ≤ ls.length ∧ G = [.val (.tup [pr (fr m), .tup (frs ls)]), .own (frs (momL m ls (i + 1))), o], ⟨.no, by omega, ?_⟩, ?_, ?_⟩
  · show [_, SD.own [pr (fr m)], _] = [_, SD.own [pr (fr (m + (ls.take 0).sum))], _]
    rw [show m + (ls.take 0).sum = m by simp]
  · rintro i G hi ⟨o, hi1, rfl⟩
    have hi2 : i < ls.length := by rw [frs_len] at hi; exact hi
    rw [show nthD (frs ls) i = pr (fr ls[i]) from nthD_map hi2]
    refine wg_name 2 ?_ nd
    refine wss_one (ws_app 1 rfl (by rw [frs_len, momL_len]; omega) (w_call ga hr (wa_cons (w_ixOwn 1 rfl (w_neg (w_int ⟨_, rfl, _, _, rfl, atI_neg (i := 1) (x := pr (fr (psum m ls i))) ?_ (by decide) (by rw [frs_len, momL_len]; omega), ?_⟩))))))
    · rw [frs_len, momL_len]
      show ((momL m ls (i + 1)).map fun x => pr (fr x))[i]? = _
      rw [List.getElem?_map, momL_get (by omega)]
      rfl
    · refine wa_cons (w_v 2 rfl (wa_nil ⟨_, _, rfl, (Bq.fr (hm i hi1)).mono (by decide), (Bq.fr (hs _ (List.getElem_mem hi2))).mono (by decide), rfl, .val (pr (fr ls[i])), hi2, ?_⟩))
      rw [add_fr, ← psum_succ hi2, momL_succ m ls (i + 1)]
      show _ = [_, SD.own ((momL m ls (i + 1) ++ [psum m ls (i + 1)]).map fun x => pr (fr x)), _]
      rw [List.map_append]
      rfl
  · rintro G ⟨o, hi1, rfl⟩
    rw [frs_len]
    exact wss_freeze 1 rfl (wss_one (ws_ret (w_v 1 rfl k)))
def intD (xs : List Int) : List D := xs.map .int
theorem intD_len {xs : List Int} : (intD xs).length = xs.length := List.length_map _
def F_cells : Md → List D → (D → Prop) → Prop := fun M ds K => ∃ ns : List Int, ds = [.tup (intD ns)] ∧ ns.length ≤ 1000 ∧ K (.lst (intD (momL 0 ns (ns.length + 1))))
theorem ok_cells (d : Df K mg "_law_cells" s_law_cells ["_law_row_here"]) : FnR P w K mg base "_law_cells" 1 F_cells := by
  refine fnD d sc_law_cells (by rintro M ds Kp ⟨a, rfl, _⟩; rfl) fun f cdv A outer s H E M Kp ds hr h => ?_
  obtain ⟨ns, rfl, hl, k⟩ := h
  have nd := sc_law_cells.nd
  refine wss_cons (ws_setLst 1 (wa_cons (w_int (wa_nil ⟨by show 1 ≤ 1000; decide, ?_⟩))) nd)
  refine wss_cons (ws_for (wi_tup (w_v 0 rfl ⟨_, rfl, fun Zs => ?_⟩)))
  refine ⟨fun i G => ∃ o, i ≤ ns.length ∧ G = [.val (.tup (intD ns)), .own (intD (momL 0 ns (i + 1))), o], ⟨.no, by omega, ?_⟩, ?_, ?_⟩
  · show [_, SD.own [D.int 0], _] = [_, SD.own [D.int (0 + (ns.take 0).sum)], _]
    rw [show 0 + (ns.take 0).sum = 0 by simp]
  · rintro i G hi ⟨o, hi1, rfl⟩
    have hi2 : i < ns.length := by rw [intD_len] at hi; exact hi
    rw [show nthD (intD ns) i = .int ns[i] from nthD_map hi2]
    refine wg_name 2 ?_ nd
    refine wss_one (ws_app 1 rfl (by rw [intD_len, momL_len]; omega) (w_add (w_ixOwn 1 rfl (w_neg (w_int ⟨_, rfl, _, _, rfl, atI_neg (i := 1) (x := .int (psum 0 ns i)) ?_ (by decide) (by rw [intD_len, momL_len]; omega), ?_⟩)))))
    · rw [intD_len, momL_len]
      show ((momL 0 ns (i + 1)).map D.int)[i]? = _
      rw [List.getElem?_map, momL_get (by omega)]
      rfl
    · refine w_v 2 rfl ⟨_, _, rfl, rfl, .val (.int ns[i]), hi2, ?_⟩
      rw [← psum_succ hi2, momL_succ 0 ns (i + 1)]
      show _ = [_, SD.own ((momL 0 ns (i + 1) ++ [psum 0 ns (i + 1)]).map D.int), _]
      rw [List.map_append]
      rfl
  · rintro G ⟨o, hi1, rfl⟩
    rw [intD_len]
    exact wss_freeze 1 rfl (wss_one (ws_ret (w_v 1 rfl k)))
theorem ins_sorted {ys : List Int} {x : Int} {a : Nat} (s : ys.Pairwise (· ≤ ·)) (h1 : ∀ j, a ≤ j → ∀ (h : j < ys.length), x < ys[j]) (h2 : a = 0 ∨ ∃ (h : a - 1 < ys.length), ¬ x < ys[a - 1]) (ha : a ≤ ys.length) : (ys.take a ++ x :: ys.drop a).Pairwise (· ≤ ·) := by
  have hs := List.pairwise_iff_getElem.mp s
  rw [List.pairwise_append]
  refine ⟨s.sublist (List.take_sublist ..), List.pairwise_cons.mpr ⟨fun y hy => ?_, s.sublist (List.drop_sublist ..)⟩, fun y hy z hz => ?_⟩
  · obtain ⟨j, hj, rfl⟩ := List.mem_iff_getElem.mp hy
    rw [List.getElem_drop]
    rw [List.length_drop] at hj
    exact Int.le_of_lt (h1 _ (by omega) (by omega))
  · obtain ⟨j, hj, rfl⟩ := List.mem_iff_getElem.mp hy
    rw [List.length_take] at hj
    rw [List.getElem_take]
    have yx : ys[j] ≤ x := by
      rcases h2 with rfl | ⟨h, h2⟩
      · omega
      · by_cases e : j = a - 1
        · subst e; omega
        · have := hs j (a - 1) (by omega) h (by omega)
          omega
    rcases List.mem_cons.mp hz with rfl | hz
    · exact yx
    · obtain ⟨i, hi, rfl⟩ := List.mem_iff_getElem.mp hz
      rw [List.length_drop] at hi
      rw [List.getElem_drop]
      have := h1 (a + i) (by omega) (by omega)
      omega
def F_order : Md → List D → (D → Prop) → Prop := fun M ds K => ∃ xs : List Int, ds = [.lst (frs xs)] ∧ xs.length ≤ 1000 ∧ (∀ x ∈ xs, Sm 400 x) ∧ ∀ ys : List Int, ys.Perm xs → ys.Pairwise (· ≤ ·) → K (.tup (frs ys))
theorem ok_order (B : Bt mg) (d : Df K mg "_law_in_order" s_law_in_order ["_law_some_here"]) (gb : FnR P w K mg base "_law_is_below" 1 F_below) : FnR P w K mg base "_law_in_order" 2 F_order := by
  refine fnD d sc_law_in_order (by rintro M ds Kp ⟨a, rfl, _⟩; rfl) fun f cdv A outer s H E M Kp ds hr h => ?_
  obtain ⟨xs, rfl, hl, hs, k⟩ := h
  have nd := sc_law_in_order.nd
  refine wss_cons (ws_setLst 1 (wa_nil ⟨by show 0 ≤ 1000; decide, ?_⟩) nd)
  refine wss_cons (ws_for (wi_list (w_v 0 rfl ⟨_, rfl, fun Zs => ?_⟩)))
  refine ⟨fun i G => ∃ (ys : List Int) (o1 o2 : SD), i ≤ xs.length ∧ G = [.val (.lst (frs xs)), .own (frs ys), o1, o2] ∧ ys.Perm (xs.take i) ∧ ys.Pairwise (· ≤ ·), ⟨[], _, _, by omega, rfl, by simp, .nil⟩, ?_, ?_⟩
  · rintro i G hi ⟨ys, o1, o2, hi1, rfl, hp, hy⟩
    have hi2 : i < xs.length := by rw [frs_len] at hi; exact hi
    have hlen : ys.length = i := by rw [hp.length_eq, List.length_take]; omega
    have hsy : ∀ y ∈ ys, Sm 400 y := fun y m => hs y (List.mem_of_mem_take (hp.mem_iff.mp m))
    have hx : Sm 400 xs[i] := hs _ (List.getElem_mem hi2)
    rw [show nthD (frs xs) i = pr (fr xs[i]) from nthD_map hi2]
    refine wg_name 2 ?_ nd
    refine wss_cons (ws_set 3 (w_lenOwn 1 rfl ?_ B.len) nd)
    refine wss_cons (ws_while (fun a G => G = [.val (.lst (frs xs)), .own (frs ys), .val (pr (fr xs[i])), .val (.int a)] ∧ a ≤ ys.length ∧ ∀ j, a ≤ j → ∀ (h : j < ys.length), xs[i] < ys[j]) ys.length ⟨by rw [frs_len]; rfl, Nat.le_refl _, fun j h1 h2 => absurd h2 (by omega)⟩ ?_)
    rintro a G ⟨rfl, a1, a2⟩
    have fin : (a = 0 ∨ ∃ (h : a - 1 < ys.length), ¬ xs[i] < ys[a - 1]) → ∀ (C : Cn) (KS : KD), (∀ (ys : List Int) (o1 o2 : SD), ys.Perm (xs.take (i + 1)) → ys.Pairwise (· ≤ ·) → KS.nx [.val (.lst (frs xs)), .own (frs ys), o1, o2]) →
        WSs (XC P w K mg base n_law_in_order "_law_in_order" s_law_in_order f cdv A outer s H E) C [.val (.lst (frs xs)), .own (frs ys), .val (pr (fr xs[i])), .val (.int a)] ((inB (defBody s_law_in_order) 1).drop 2) KS := by
      intro h2 C KS hn
      refine wss_one (ws_insert 1 rfl (by rw [frs_len]; omega) (w_v 3 rfl (w_v 2 rfl ⟨a, rfl, by rw [frs_len]; exact a1, ?_⟩)))
      have e0 : (frs ys).take a ++ pr (fr xs[i]) :: (frs ys).drop a = frs (ys.take a ++ xs[i] :: ys.drop a) := by
        unfold frs
        rw [List.map_append, List.map_cons, List.map_drop, List.map_take]
      rw [e0]
      refine hn (ys.take a ++ xs[i] :: ys.drop a) _ _ ?_ (ins_sorted hy a2 h2 a1)
      · rw [List.take_succ_eq_append_getElem hi2]
        refine List.Perm.trans (List.perm_middle) ?_
        rw [List.take_append_drop]
        refine List.Perm.trans (List.Perm.cons _ hp) ?_
        exact (List.perm_append_singleton _ _).symm
    refine wt_and (wt_gt (w_v 3 rfl (w_int ⟨_, _, rfl, rfl, fun hz => ?_, fun hz => ⟨fun z => (by cases z), fun _ => ?_⟩⟩)))
    · have hz : 0 < (a : Int) := of_decide_eq_true hz
      have ha : a - 1 < ys.length := by omega
      refine wt_val (w_call gb hr (wa_cons (w_v 2 rfl (wa_cons (w_ixOwn 1 rfl (w_sub (w_v 3 rfl (w_int ⟨_, _, rfl, rfl, _, pr (fr ys[a - 1]), rfl, ?_, ?_⟩))))))))
      · rw [show (a : Int) - 1 = ((a - 1 : Nat) : Int) by omega]
        refine atI_nat ?_
        show (ys.map fun x => pr (fr x))[a - 1]? = _
        rw [List.getElem?_map, List.getElem?_eq_getElem ha]
        rfl
      · refine wa_nil ⟨_, _, rfl, (Bq.fr hx).mono (by decide), (Bq.fr (hsy _ (List.getElem_mem ha))).mono (by decide), rfl, _, rfl, fun hy => ?_, fun hy => ?_⟩
        · have hy := (fr_lt _ _).mp (of_decide_eq_true hy)
          refine wss_one (ws_aug ip_sub 3 rfl (w_int ⟨_, rfl, ?_⟩) nd)
          refine ⟨a - 1, by omega, ?_, by omega, fun j j1 j2 => ?_⟩
          · show [_, _, _, SD.val (.int ((a : Int) - 1))] = _
            rw [show (a : Int) - 1 = ((a - 1 : Nat) : Int) by omega]
          · by_cases e : j = a - 1
            · subst e; exact hy
            · exact a2 j (by omega) j2
        · have hy := (not_congr (fr_lt _ _)).mp (of_decide_eq_false hy)
          exact fin (.inr ⟨ha, hy⟩) _ _ (by intro ys o1 o2 z1 z2; exact ⟨ys, o1, o2, by omega, rfl, z1, z2⟩)
    · have hz : ¬ 0 < (a : Int) := of_decide_eq_false hz
      exact fin (.inl (by omega)) _ _ (by intro ys o1 o2 z1 z2; exact ⟨ys, o1, o2, by omega, rfl, z1, z2⟩)
  · rintro G ⟨ys, o1, o2, hi1, rfl, hp, hy⟩
    rw [frs_len, List.take_length] at hp
    exact wss_freeze 1 rfl (wss_one (ws_ret (w_tupOf B.tuple (w_v 1 rfl ⟨_, rfl, k ys hp hy⟩))))
/-- what is heard, before it is put in order -/
def heardL (m : Int) (ls ns shs : List Int) : List Int := (List.range (ns.length + 1)).map fun j => psum m ls (psum 0 ns j).toNat + shs.getD j 0
def F_hearing : Md → List D → (D → Prop) → Prop := fun M ds K => ∃ (m : Int) (ls ns shs : List Int), ds = [.tup [pr (fr m), .tup (frs ls)], .tup (intD ns), .tup (frs shs)] ∧ ls.length ≤ 1000 ∧ (∀ j, j ≤ ls.length → Sm 300 (psum m ls j)) ∧ (∀ l ∈ ls, Sm 300 l) ∧ ns.length ≤ 999 ∧ shs.length = ns.length + 1 ∧ (∀ l ∈ shs, Sm 300 l) ∧
  (∀ j, j ≤ ns.length → 0 ≤ psum 0 ns j ∧ psum 0 ns j ≤ ls.length) ∧ ∀ ys : List Int, ys.Perm (heardL m ls ns shs) → ys.Pairwise (· ≤ ·) → K (.tup (frs ys))
theorem ok_hearing (B : Bt mg) (d : Df K mg "_law_hearing" s_law_hearing ["_law_telling_here", "_law_row_here", "_law_shifts_here"]) (gs : FnR P w K mg base "_law_sums" 4 F_sums) (gc : FnR P w K mg base "_law_cells" 1 F_cells) (go : FnR P w K mg base "_law_in_order" 2 F_order) (ga : FnR P w K mg base "_law_add" 3 F_added) : FnR P w K mg base "_law_hearing" 5 F_hearing := by
  refine fnD d sc_law_hearing (by rintro M ds Kp ⟨a, b, c, d, rfl, _⟩; rfl) fun f cdv A outer s H E M Kp ds hr h => ?_
  obtain ⟨m, ls, ns, shs, rfl, hl, hm, hs, hn, hsl, hss, hps, k⟩ := h
  have nd := sc_law_hearing.nd
  refine wss_cons (ws_set 3 (w_callL gs hr rfl (wa_cons (w_v 0 rfl (wa_nil ⟨m, ls, rfl, hl, hm, hs, ?_⟩)))) nd)
  refine wss_one (ws_ret (w_call go (hr.mono (by decide)) (wa_cons (w_lc (own := [("_law_cell", 4), ("_law_shift", 5)]) (blk (by rfl)) nd ?_))))
  refine wi_zipLT B.zip (w_callL gc (hr.mono (by decide)) rfl (wa_cons (w_v 1 rfl (wa_nil ⟨ns, rfl, by omega, ?_⟩))))
  refine w_v 2 rfl ⟨imm_frs shs, _, _, rfl, rfl, by rw [intD_len, momL_len, frs_len, hsl], fun Zs => ?_⟩
  rw [intD_len, momL_len]
  refine ⟨fun i d => d = pr (fr (psum m ls (psum 0 ns i).toNat + shs.getD i 0)), by omega, fun i d e => by rw [e]; rfl, fun i hi => ?_, fun ds dl dh => ?_⟩
  · have hL : i < (momL 0 ns (ns.length + 1)).length := by rw [momL_len]; exact hi
    have e1 : nthD (intD (momL 0 ns (ns.length + 1))) i = .int (psum 0 ns i) := by
      rw [show nthD (intD (momL 0 ns (ns.length + 1))) i = D.int (momL 0 ns (ns.length + 1))[i] from nthD_map (by rw [momL_len]; exact hi)]
      congr 1
      have := momL_get (m := 0) (ls := ns) hi
      rw [List.getElem?_eq_getElem (by rw [momL_len]; exact hi)] at this
      exact Option.some.inj this
    have e2 : nthD (frs shs) i = pr (fr (shs.getD i 0)) := by
      rw [show nthD (frs shs) i = pr (fr shs[i]) from nthD_map (by omega), List.getD_eq_getElem?_getD, List.getElem?_eq_getElem (by omega)]
      rfl
    show WBG _ _ _ _ _ (D.tup [nthD (intD (momL 0 ns (ns.length + 1))) i, nthD (frs shs) i]) _ _
    rw [e1, e2]
    intro s H c cl fp
    refine wgw_tup (wgws_cons (wgw_name 4 (wgws_cons (wgw_name 5 (wgws_nil ?_) (by decide) nd)) (by decide) nd)) rfl
    intro s2 H2 c2 cl2 fp2
    obtain ⟨p1, p2⟩ := hps i (by omega)
    have hj : (psum 0 ns i).toNat ≤ ls.length := by omega
    refine w_call ga (hr.mono (by decide)) (wa_cons (w_ix (w_v 3 rfl (w_v 4 rfl ⟨_, _, pr (fr (psum m ls (psum 0 ns i).toNat)), .inr rfl, rfl, ?_, ?_⟩))))
    · rw [show psum 0 ns i = (((psum 0 ns i).toNat : Nat) : Int) by omega]
      refine atI_nat ?_
      show ((momL m ls (ls.length + 1)).map fun x => pr (fr x))[_]? = _
      rw [List.getElem?_map, momL_get (by omega)]
      rfl
    · have bs : Sm 300 (shs.getD i 0) := by
        rw [List.getD_eq_getElem?_getD, List.getElem?_eq_getElem (by omega)]
        exact hss _ (List.getElem_mem (by omega))
      refine wa_cons (w_v 5 rfl (wa_nil ⟨_, _, rfl, (Bq.fr (hm _ hj)).mono (by decide), (Bq.fr bs).mono (by decide), rfl, ?_⟩))
      rw [add_fr]
  · have e : ds = frs (heardL m ls ns shs) := by
      refine List.ext_getElem? fun i => ?_
      by_cases hi : i < ns.length + 1
      · rw [List.getElem?_eq_getElem (by omega)]
        have := dh i _ (List.getElem?_eq_getElem (by omega))
        rw [this]
        unfold frs heardL
        rw [List.map_map, List.getElem?_map, List.getElem?_range hi]
        rfl
      · rw [List.getElem?_eq_none (by omega), List.getElem?_eq_none (by unfold frs heardL; simp; omega)]
    subst e
    refine wa_nil ⟨_, rfl, by unfold heardL; simp; omega, fun x hx => ?_, fun ys y1 y2 => ⟨imm_frs ys, k ys y1 y2⟩⟩
    unfold heardL at hx
    obtain ⟨j, hj, rfl⟩ := List.mem_map.mp hx
    rw [List.mem_range] at hj
    obtain ⟨p1, p2⟩ := hps j (by omega)
    refine ((hm _ (by omega)).add ?_).mono (by decide)
    rw [List.getD_eq_getElem?_getD, List.getElem?_eq_getElem (by omega)]
    exact hss _ (List.getElem_mem (by omega))
end
end FL
end
section
set_option Elab.async false
set_option linter.all false
set_option maxRecDepth 100000
set_option pp.maxSteps 600
/-! Shapes. -/
namespace FL
open PySem PySem.Spec PyProof.Rows L2 FM
def shD (S : Sh) : D := .tup [.int S.N, .lst (prs S.ps)]
section
variable {P : Program} {w : World} {K : PySem.W.Frag} {mg : Str → Option Value} {base : Heap}
def F_turns : Md → List D → (D → Prop) → Prop := fun M ds K => ∃ a b c : Pt, ds = [pr a, pr b, pr c] ∧ (Sm 5000 a.1 ∧ Sm 5000 a.2) ∧ (Sm 5000 b.1 ∧ Sm 5000 b.2) ∧ (Sm 5000 c.1 ∧ Sm 5000 c.2) ∧ K (.int (trn a b c))
theorem ok_turns (d : Df K mg "_law_turns" s_law_turns ["_law_one", "_law_two", "_law_three"]) : FnR P w K mg base "_law_turns" 1 F_turns := by
  refine fnD d sc_law_turns (by rintro M ds Kp ⟨a, b, c, rfl, _⟩; rfl) fun f cdv A outer s H E M Kp ds hr h => ?_
  obtain ⟨a, b, c, rfl, ha, hb, hc, k⟩ := h
  refine wss_one (ws_ret (w_sub (w_mul (w_sub (w_p0 1 rfl (w_p0 0 rfl ⟨_, _, rfl, rfl, w_sub (w_p1 2 rfl (w_p1 0 rfl ⟨_, _, rfl, rfl, ?_⟩))⟩))))))
  refine ⟨_, _, rfl, rfl, mulOk (hb.1.sub ha.1) (hc.2.sub ha.2), w_mul (w_sub (w_p1 1 rfl (w_p1 0 rfl ⟨_, _, rfl, rfl, w_sub (w_p0 2 rfl (w_p0 0 rfl ⟨_, _, rfl, rfl, ?_⟩))⟩)))⟩
  exact ⟨_, _, rfl, rfl, mulOk (hb.2.sub ha.2) (hc.1.sub ha.1), _, _, rfl, rfl, k⟩
def F_hull : Md → List D → (D → Prop) → Prop := fun M ds K => ∃ ps : List Pt, ds = [.lst (prs ps)] ∧ ps.length ≤ 300 ∧ (∀ p ∈ ps, Sm 5000 p.1 ∧ Sm 5000 p.2) ∧ ∀ qs, Hul ps qs → K (.lst (prs qs))
theorem nthD_prs {ps : List Pt} {i : Nat} (h : i < ps.length) : nthD (prs ps) i = pr ps[i] := nthD_map h
theorem gcds_pos {N : Int} (h : 0 < N) : ∀ {ps : List Pt}, 0 < gcds N ps := fun {ps} => by
  have key : ∀ (ps : List Pt) (g : Int), 0 < g → 0 < ps.foldl (fun g p => (Int.gcd (Int.gcd g p.1 : Int) p.2 : Int)) g := fun ps => by
    induction ps with
    | nil => exact fun g h => h
    | cons p ps ih =>
      intro g hg
      refine ih _ ?_
      have h1 : 0 < (Int.gcd g p.1 : Int) := by
        have : Int.gcd g p.1 ≠ 0 := fun z => by
          have := Int.gcd_eq_zero_iff.mp z
          omega
        omega
      have : Int.gcd (Int.gcd g p.1 : Int) p.2 ≠ 0 := fun z => by
        have := Int.gcd_eq_zero_iff.mp z
        omega
      show 0 < (Int.gcd (Int.gcd g p.1 : Int) p.2 : Int)
      omega
  exact key ps N h
theorem gcds_dvd (N : Int) (ps : List Pt) : gcds N ps ∣ N ∧ ∀ p ∈ ps, gcds N ps ∣ p.1 ∧ gcds N ps ∣ p.2 := by
  have key : ∀ (ps : List Pt) (g : Int), ps.foldl (fun g p => (Int.gcd (Int.gcd g p.1 : Int) p.2 : Int)) g ∣ g ∧ ∀ p ∈ ps, ps.foldl (fun g p => (Int.gcd (Int.gcd g p.1 : Int) p.2 : Int)) g ∣ p.1 ∧ ps.foldl (fun g p => (Int.gcd (Int.gcd g p.1 : Int) p.2 : Int)) g ∣ p.2 := fun ps => by
    induction ps with
    | nil => exact fun g => ⟨Int.dvd_refl _, fun p hp => by cases hp⟩
    | cons p ps ih =>
      intro g
      obtain ⟨i1, i2⟩ := ih (Int.gcd (Int.gcd g p.1 : Int) p.2 : Int)
      have d1 := Int.dvd_trans i1 (Int.gcd_dvd_left ..)
      refine ⟨Int.dvd_trans d1 (Int.gcd_dvd_left ..), fun q hq => ?_⟩
      rcases List.mem_cons.mp hq with rfl | hq
      · exact ⟨Int.dvd_trans d1 (Int.gcd_dvd_right ..), Int.dvd_trans i1 (Int.gcd_dvd_right ..)⟩
      · exact i2 q hq
  exact key ps N
theorem divOkQ {i j : Int} {k : Nat} (hj : 0 < j) (hd : j ∣ i) (hq : Sm k (i / j)) (hk : k < 4399 := by decide) : DivOk i j := by
  refine ⟨hj, .inr ?_⟩
  have e : i = j * (i / j) := (Int.mul_ediv_cancel' hd).symm
  have l1 : Sm (j.natAbs.log2 + 1) j := Nat.lt_log2_self
  have l2 := (l1.mul hq).log
  rw [← e] at l2
  omega
theorem gcds_fold {N : Int} {ps : List Pt} {i : Nat} (h : i < ps.length) : gcds N (ps.take (i + 1)) = (Int.gcd (Int.gcd (gcds N (ps.take i)) ps[i].1 : Int) ps[i].2 : Int) := by
  unfold gcds
  rw [List.take_succ_eq_append_getElem h, List.foldl_append]
  rfl
def F_plain : Md → List D → (D → Prop) → Prop := fun M ds K => ∃ (N : Int) (ps : List Pt), ds = [.int N, .lst (prs ps)] ∧ PlainPre N ps ∧ ∀ S, PlainR N ps S → K (shD S)
theorem ok_plain {kh : Nat} (d : Df K mg "_law_plain_shape" s_law_plain_shape ["_law_many_here", "_law_points"]) (gc : FnR P w K mg base "_law_common" 1 F_common) (gh : FnR P w K mg base "_law_hull" (kh + 1) F_hull) : FnR P w K mg base "_law_plain_shape" (kh + 2) F_plain := by
  refine fnD d sc_law_plain_shape (by rintro M ds Kp ⟨a, b, rfl, _⟩; rfl) fun f cdv A outer s H E M Kp ds hr h => ?_
  obtain ⟨N, ps, rfl, pre, k⟩ := h
  have nd := sc_law_plain_shape.nd
  have h1 : Room 1 (XC P w K mg base n_law_plain_shape "_law_plain_shape" s_law_plain_shape f cdv A outer s H E).A := hr.mono (by omega)
  refine wss_cons (ws_set 2 (w_v 0 rfl ?_) nd)
  refine wss_cons (ws_for (wi_list (w_v 1 rfl ⟨_, rfl, fun Zs => ?_⟩)))
  refine ⟨fun i G => ∃ o1 o2, noOw [o1, o2] = true ∧ G = [.val (.int N), .val (.lst (prs ps)), .val (.int (gcds N (ps.take i))), o1, o2], ⟨.no, .no, rfl, rfl⟩, ?_, ?_⟩
  · rintro i G hi ⟨o1, o2, ho, rfl⟩
    have hi2 : i < ps.length := by rw [prs_len] at hi; exact hi
    rw [nthD_prs hi2]
    refine wg_tup (wgs_cons fun _ => wg_name 3 (wgs_cons fun _ => wg_name 4 (wgs_nil ?_) nd) nd) rfl
    refine wss_one (ws_set 2 (w_call gc h1 (wa_cons (w_call gc h1 (wa_cons (w_v 2 rfl (wa_cons (w_v 3 rfl (wa_nil ⟨_, _, rfl, rfl, wa_cons (w_v 4 rfl (wa_nil ⟨_, _, rfl, rfl, ?_⟩))⟩)))))))) nd)
    refine ⟨.val (.int ps[i].1), .val (.int ps[i].2), rfl, ?_⟩
    rw [gcds_fold hi2]
    rfl
  · rintro G ⟨o1, o2, ho, rfl⟩
    rw [prs_len, List.take_length]
    have no : noOw [SD.val (.int N), .val (.lst (prs ps)), .val (.int (gcds N ps)), o1, o2] = true := by simpa [noOw] using ho
    have gp := gcds_pos (ps := ps) pre.pos
    obtain ⟨gd, gd2⟩ := gcds_dvd N ps
    refine wss_one (ws_ret (w_tup (wa_cons (w_div (w_v 0 rfl (w_v 2 rfl ⟨_, _, rfl, rfl, divOkQ gp gd pre.q1, ?_⟩))))))
    refine wa_cons (w_callL gh (hr.mono (by omega)) no (wa_cons (w_lc (own := [("_law_x", 3), ("_law_y", 4)]) (blk (by rfl)) nd ?_)))
    refine wi_list (w_v 1 rfl ⟨_, rfl, fun Zs => ?_⟩)
    rw [prs_len]
    refine ⟨fun i d => ∃ h : i < ps.length, d = pr (ps[i].1 / gcds N ps, ps[i].2 / gcds N ps), by have := pre.len; omega, fun i d e => by obtain ⟨_, e⟩ := e; rw [e]; rfl, fun i hi => ?_, fun ds dl dh => ?_⟩
    · rw [nthD_prs hi]
      intro s H c cl fp
      refine wgw_tup (wgws_cons (wgw_name 3 (wgws_cons (wgw_name 4 (wgws_nil ?_) (by decide) nd)) (by decide) nd)) rfl
      intro s2 H2 c2 cl2 fp2
      have hm := List.getElem_mem hi
      refine w_pair (w_div (w_v 3 rfl (w_v 2 rfl ⟨_, _, rfl, rfl, divOkQ gp (gd2 _ hm).1 (pre.q2 _ hm).1, ?_⟩)))
      exact w_div (w_v 4 rfl (w_v 2 rfl ⟨_, _, rfl, rfl, divOkQ gp (gd2 _ hm).2 (pre.q2 _ hm).2, _, _, rfl, rfl, hi, rfl⟩))
    · have e : ds = prs (ps.map fun p => (p.1 / gcds N ps, p.2 / gcds N ps)) := by
        refine List.ext_getElem? fun i => ?_
        by_cases hi : i < ps.length
        · rw [List.getElem?_eq_getElem (by omega)]
          obtain ⟨_, e⟩ := dh i _ (List.getElem?_eq_getElem (by omega))
          rw [e]
          unfold prs
          rw [List.map_map, List.getElem?_map, List.getElem?_eq_getElem hi]
          rfl
        · rw [List.getElem?_eq_none (by omega), List.getElem?_eq_none (by rw [prs_len, List.length_map]; omega)]
      subst e
      refine wa_nil ⟨_, rfl, by rw [List.length_map]; exact pre.len, fun p hp => ?_, fun qs hq => wa_nil ⟨by show 2 ≤ 1000; decide, k ⟨_, qs⟩ ⟨rfl, hq⟩⟩⟩
      obtain ⟨q, hq, rfl⟩ := List.mem_map.mp hp
      exact ⟨(pre.q2 q hq).1.mono (by decide), (pre.q2 q hq).2.mono (by decide)⟩
end
end FL
end
section
set_option Elab.async false
set_option linter.all false
set_option maxRecDepth 100000
set_option pp.maxSteps 200
/-! The cut. -/
namespace FL
open PySem PySem.Spec PyProof.Rows L2 FM
def itD2 (x : Pt × Int) : D := .tup [pr x.1, .int x.2]
section
variable {P : Program} {w : World} {K : PySem.W.Frag} {mg : Str → Option Value} {base : Heap}
theorem side_sm {S : Sh} {pl : Nat} {b : Int × Int} {sg : Int} (h : CutPre S pl b sg) {p : Pt} (hp : p ∈ S.ps) : Sm 5010 (sideOf S.N pl b sg p) := by
  have e : Sm 4000 (if pl = 0 then p.1 else p.2) := by split; exact (h.sp p hp).1; exact (h.sp p hp).2
  have s2 : Sm 2 sg := by rcases h.sg1 with e | e <;> (rw [e]; unfold Sm; decide)
  unfold sideOf
  exact (s2.mul (((e.mul h.b2)).sub ((h.b1.mul h.sN).mono (by decide)))).mono (by decide)
theorem sn_sm {s t : Int} : Sm 2 (sn s t) := by unfold sn Sm; split <;> decide
theorem size_pos {s t : Int} (h : s * t < 0) : 0 < (t - s) * sn s t := by
  unfold sn
  split
  · omega
  · have : s ≠ t := fun e => by
      subst e
      have : 0 ≤ s * s := by
        by_cases q : 0 ≤ s
        · exact Int.mul_nonneg q q
        · exact Int.mul_nonneg_of_nonpos_of_nonpos (by omega) (by omega)
      omega
    omega
def F_cut : Md → List D → (D → Prop) → Prop := fun M ds K => ∃ (S : Sh) (pl : Nat) (b : Int × Int) (sg : Int), ds = [shD S, .int pl, pr b, .int sg] ∧ CutPre S pl b sg ∧ ∀ S', CutR S pl b sg S' → K (shD S')
theorem itm_sm {S : Sh} {pl : Nat} {b : Int × Int} {sg : Int} (h : CutPre S pl b sg) {n : Nat} (hn : n ≤ S.ps.length) : ∀ x ∈ cutL (sideOf S.N pl b sg) S.ps n, 0 < x.2 ∧ Sm 5020 x.2 ∧ Sm 9100 x.1.1 ∧ Sm 9100 x.1.2 := by
  intro x hx
  unfold cutL at hx
  obtain ⟨i, hi, hx⟩ := List.mem_flatMap.mp hx
  rw [List.mem_range] at hi
  have hi' : i < S.ps.length := by omega
  have hj : (i + 1) % S.ps.length < S.ps.length := Nat.mod_lt _ (by omega)
  have ei : S.ps.getD i (0, 0) = S.ps[i] := by rw [List.getD_eq_getElem?_getD, List.getElem?_eq_getElem hi']; rfl
  have ej : S.ps.getD ((i + 1) % S.ps.length) (0, 0) = S.ps[(i + 1) % S.ps.length] := by rw [List.getD_eq_getElem?_getD, List.getElem?_eq_getElem hj]; rfl
  unfold itm at hx
  rw [ei, ej] at hx
  have m1 := List.getElem_mem hi'
  have m2 := List.getElem_mem hj
  have s1 := side_sm h m1
  have s2 := side_sm h m2
  generalize sideOf S.N pl b sg S.ps[i] = s at hx s1
  generalize sideOf S.N pl b sg S.ps[(i + 1) % S.ps.length] = t at hx s2
  rcases List.mem_append.mp hx with hx | hx
  · split at hx
    · obtain rfl := List.mem_singleton.mp hx
      exact ⟨by show (0 : Int) < 1; decide, (Sm.of (a := 1) 1 (show (1 : Int).natAbs ≤ 1 by decide)).mono (by decide), (h.sp _ m1).1.mono (by decide), (h.sp _ m1).2.mono (by decide)⟩
    · cases hx
  · split at hx
    · rename_i hst
      obtain rfl := List.mem_singleton.mp hx
      refine ⟨size_pos hst, ((s2.sub s1).mul sn_sm).mono (by decide), ?_, ?_⟩
      · exact (((((h.sp _ m1).1.mul s2).sub ((h.sp _ m2).1.mul s1)).mul sn_sm)).mono (by decide)
      · exact (((((h.sp _ m1).2.mul s2).sub ((h.sp _ m2).2.mul s1)).mul sn_sm)).mono (by decide)
    · cases hx
theorem itm_len (f : Pt → Int) (ps : List Pt) (i : Nat) : (itm f ps i).length ≤ 2 := by
  unfold itm
  rw [List.length_append]
  split <;> split <;> simp
theorem cutL_len (f : Pt → Int) (ps : List Pt) (n : Nat) : (cutL f ps n).length ≤ 2 * n := by
  induction n with
  | zero => simp [cutL]
  | succ n ih =>
    rw [cutL_succ, List.length_append]
    have := itm_len f ps n
    omega
theorem fac_sm : ∀ {l : List (Pt × Int)}, (∀ x ∈ l, 0 < x.2 ∧ Sm 5020 x.2) → 0 < fac l ∧ Sm (5020 * l.length + 1) (fac l) := fun {l} => by
  have key : ∀ (l : List (Pt × Int)) (a : Int) (k : Nat), 0 < a → Sm k a → (∀ x ∈ l, 0 < x.2 ∧ Sm 5020 x.2) → 0 < (l.map (·.2)).foldl (· * ·) a ∧ Sm (k + 5020 * l.length) ((l.map (·.2)).foldl (· * ·) a) := fun l => by
    induction l with
    | nil => exact fun a k h1 h2 _ => ⟨h1, h2⟩
    | cons x l ih =>
      intro a k h1 h2 h3
      have hx := h3 x List.mem_cons_self
      have := ih (a * x.2) (k + 5020) (Int.mul_pos h1 hx.1) (h2.mul hx.2) fun y hy => h3 y (List.mem_cons_of_mem _ hy)
      refine ⟨this.1, ?_⟩
      rw [List.length_cons, show k + 5020 * (l.length + 1) = k + 5020 + 5020 * l.length by omega]
      exact this.2
  intro h
  have := key l 1 1 (by decide) (Sm.of 1 (by decide)) h
  rw [Nat.add_comm]
  exact this
theorem getD_ps {ps : List Pt} {i : Nat} (h : i < ps.length) : ps.getD i (0, 0) = ps[i] := by
  rw [List.getD_eq_getElem?_getD, List.getElem?_eq_getElem h]
  rfl
set_option maxHeartbeats 2000000 in
theorem ok_cut {kp : Nat} (B : Bt mg) (d : Df K mg "_law_cut" s_law_cut ["_law_shape", "_law_place", "_law_bound", "_law_sign"]) (gp : FnR P w K mg base "_law_plain_shape" kp F_plain) : FnR P w K mg base "_law_cut" (kp + 1) F_cut := by
  refine fnD d sc_law_cut (by rintro M ds Kp ⟨a, b, c, d, rfl, _⟩; rfl) fun f cdv A outer s0 H E M Kp ds hr h => ?_
  obtain ⟨⟨N, ps⟩, pl, b, sg, rfl, pre, k⟩ := h
  have nd := sc_law_cut.nd
  have hlen : ps.length ≤ 200 := pre.len
  refine wss_cons (ws_asg (w_v 0 rfl (wg_tup (wgs_cons fun _ => wg_name 4 (wgs_cons fun _ => wg_name 5 (wgs_nil ?_) nd) nd) rfl)))
  have s2 : Sm 2 sg := by rcases pre.sg1 with e | e <;> (rw [e]; unfold Sm; decide)
  -- the sides
  have c1 : ∀ p ∈ ps, Sm 4000 (if pl = 0 then p.1 else p.2) := fun p hp => by split; exact (pre.sp p hp).1; exact (pre.sp p hp).2
  refine wss_cons (ws_setLc 6 (own := [("_law_point", 7)]) (blk (by rfl)) nd ?_ (sw_true rfl rfl rfl rfl))
  refine wi_list (w_v 5 rfl ⟨_, rfl, fun Zs => ?_⟩)
  rw [prs_len]
  refine ⟨fun i d => ∃ h : i < ps.length, d = .int (sideOf N pl b sg ps[i]), (by show ps.length ≤ 100000; omega), fun i d e => by obtain ⟨_, e⟩ := e; rw [e]; rfl, fun i hi => ?_, fun ds dl dh => ?_⟩
  · rw [nthD_prs hi]
    intro s H c cl fp
    refine wgw_name 7 ?_ (by decide) nd
    intro s2' H2 c2 cl2 fp2
    have hm := List.getElem_mem hi
    refine w_mul (w_v 3 rfl (w_sub (w_mul (w_ix (w_v 7 rfl (w_v 1 rfl ⟨[.int ps[i].1, .int ps[i].2], pl, .int (if pl = 0 then ps[i].1 else ps[i].2), .inl rfl, rfl, ?_, w_ix (w_v 2 rfl (w_int ⟨_, _, _, .inl rfl, rfl, rfl, ?_⟩))⟩))))))
    · rcases pre.pl1 with e | e <;> (subst e; rfl)
    · refine ⟨_, _, rfl, rfl, mulOk (c1 _ hm) pre.b2, w_mul (w_ix (w_v 2 rfl (w_int ⟨_, _, _, .inl rfl, rfl, rfl, w_v 4 rfl ⟨_, _, rfl, rfl, mulOk pre.b1 pre.sN, ?_⟩⟩)))⟩
      exact ⟨_, _, rfl, rfl, _, _, rfl, rfl, mulOk s2 (((c1 _ hm).mul pre.b2).sub ((pre.b1.mul pre.sN).mono (by decide))), hi, rfl⟩
  replace dl : ds.length = ps.length := dl
  have eS : ds = ps.map fun p => D.int (sideOf N pl b sg p) := by
    refine List.ext_getElem? fun i => ?_
    by_cases hi : i < ps.length
    · rw [List.getElem?_eq_getElem (by omega)]
      obtain ⟨_, e⟩ := dh i _ (List.getElem?_eq_getElem (by omega))
      rw [e, List.getElem?_map, List.getElem?_eq_getElem hi]
      rfl
    · rw [List.getElem?_eq_none (by omega), List.getElem?_eq_none (by rw [List.length_map]; omega)]
  subst eS
  clear dl dh
  refine wss_cons (ws_asgO1 8 9 (w_int ⟨rfl, ?_⟩) nd)
  have sm := fun n hn => itm_sm (S := ⟨N, ps⟩) pre (n := n) hn
  have smf := fun n (hn : n ≤ ps.length) => fac_sm (l := cutL (sideOf N pl b sg) ps n) fun x hx => ⟨(sm n hn x hx).1, (sm n hn x hx).2.1⟩
  refine wss_cons (ws_for (wi_enum B.enumerate (w_v 5 rfl ⟨_, rfl, fun Zs => ?_⟩)))
  rw [prs_len]
  refine ⟨fun i G => ∃ o7 o10 o11 o12 o13 o14 o15 o16, noOw [o7, o10, o11, o12, o13, o14, o15, o16] = true ∧ i ≤ ps.length ∧ G = [.val (shD ⟨N, ps⟩), .val (.int pl), .val (pr b), .val (.int sg), .val (.int N), .val (.lst (prs ps)), .val (.lst (ps.map fun p => D.int (sideOf N pl b sg p))), o7,
    .own ((cutL (sideOf N pl b sg) ps i).map itD2), .val (.int (fac (cutL (sideOf N pl b sg) ps i))), o10, o11, o12, o13, o14, o15, o16, .no, .no, .no, .no], ⟨.no, .no, .no, .no, .no, .no, .no, .no, rfl, Nat.zero_le _, rfl⟩, ?_, ?_⟩
  · rintro i G hi ⟨o7, o10, o11, o12, o13, o14, o15, o16, ho, hi1, rfl⟩
    replace hi : i < ps.length := hi
    have hj : (i + 1) % ps.length < ps.length := Nat.mod_lt _ (by omega)
    have hm := List.getElem_mem hi
    have hm2 := List.getElem_mem hj
    show WG _ _ _ _ (D.tup [.int i, nthD (prs ps) i]) _
    rw [nthD_prs hi]
    have b1 := side_sm pre hm
    have b2 := side_sm pre hm2
    simp only at b1 b2
    refine wg_tup (wgs_cons fun _ => wg_name 10 (wgs_cons fun _ => wg_name 7 (wgs_nil ?_) nd) nd) rfl
    have get : ∀ j (h : j < ps.length), L2.atI (ps.map fun p => D.int (sideOf N pl b sg p)) (j : Int) = some (.int (sideOf N pl b sg ps[j])) := fun j h => atI_nat (by rw [List.getElem?_map, List.getElem?_eq_getElem h]; rfl)
    have getp : ∀ j (h : j < ps.length), L2.atI (prs ps) (j : Int) = some (pr ps[j]) := fun j h => atI_nat (by unfold prs; rw [List.getElem?_map, List.getElem?_eq_getElem h]; rfl)
    have emod : ((i : Int) + 1) % (ps.length : Int) = (((i + 1) % ps.length : Nat) : Int) := by simp
    refine wss_cons (ws_asg (w_tup (wa_cons (w_ix (w_v 6 rfl (w_v 10 rfl ⟨_, _, _, .inr rfl, rfl, get i hi, ?_⟩))))))
    refine wa_cons (w_ix (w_v 6 rfl (w_mod (w_add (w_v 10 rfl (w_int ⟨_, _, rfl, rfl, w_len B.len (w_v 5 rfl ⟨_, .inr rfl, ?_⟩)⟩))))))
    rw [prs_len]
    refine ⟨_, _, rfl, rfl, by omega, _, _, _, .inr rfl, rfl, by rw [emod]; exact get _ hj, ?_⟩
    refine wa_nil ⟨by show 2 ≤ 1000; decide, wg_tup (wgs_cons fun _ => wg_name 11 (wgs_cons fun _ => wg_name 12 (wgs_nil ?_) nd) nd) rfl⟩
    have ei : itm (sideOf N pl b sg) ps i = (if 0 ≤ sideOf N pl b sg ps[i] then [(ps[i], 1)] else []) ++ (if sideOf N pl b sg ps[i] * sideOf N pl b sg ps[(i + 1) % ps.length] < 0 then
        [(newP (sideOf N pl b sg ps[i]) (sideOf N pl b sg ps[(i + 1) % ps.length]) ps[i] ps[(i + 1) % ps.length], (sideOf N pl b sg ps[(i + 1) % ps.length] - sideOf N pl b sg ps[i]) * sn (sideOf N pl b sg ps[i]) (sideOf N pl b sg ps[(i + 1) % ps.length]))] else []) := by
      unfold itm
      rw [getD_ps hi, getD_ps hj]
    have hcl := cutL_len (sideOf N pl b sg) ps i
    have smi := smf i (by omega)
    have cs := cutL_succ (sideOf N pl b sg) ps i
    rw [ei] at cs
    generalize cutL (sideOf N pl b sg) ps i = L at cs hcl smi ⊢
    obtain ⟨L2, hL2⟩ : ∃ L2, L2 = cutL (sideOf N pl b sg) ps (i + 1) := ⟨_, rfl⟩
    rw [← hL2] at cs
    generalize hs : sideOf N pl b sg ps[i] = s at b1 cs ⊢
    generalize ht : sideOf N pl b sg ps[(i + 1) % ps.length] = t at b2 cs ⊢
    -- behind the first if
    have rest : ∀ (L1 : List (Pt × Int)), fac L1 = fac L → L1.length ≤ L.length + 1 → L2 = L1 ++ (if s * t < 0 then [(newP s t ps[i] ps[(i + 1) % ps.length], (t - s) * sn s t)] else []) → ∀ (C : Cn) (KS : KD), C.M = M →
        (∀ o7 o10 o11 o12 o13 o14 o15 o16, noOw [o7, o10, o11, o12, o13, o14, o15, o16] = true → KS.nx [.val (shD ⟨N, ps⟩), .val (.int pl), .val (pr b), .val (.int sg), .val (.int N), .val (.lst (prs ps)), .val (.lst (ps.map fun p => D.int (sideOf N pl b sg p))), o7,
          .own (L2.map itD2), .val (.int (fac L2)), o10, o11, o12, o13, o14, o15, o16, .no, .no, .no, .no]) →
        WSs (XC P w K mg base n_law_cut "_law_cut" s_law_cut f cdv A outer s0 H E) C [.val (shD ⟨N, ps⟩), .val (.int pl), .val (pr b), .val (.int sg), .val (.int N), .val (.lst (prs ps)), .val (.lst (ps.map fun p => D.int (sideOf N pl b sg p))), .val (pr ps[i]),
          .own (L1.map itD2), .val (.int (fac L)), .val (.int i), .val (.int s), .val (.int t), o13, o14, o15, o16, .no, .no, .no, .no] ((inB (defBody s_law_cut) 3).drop 2) KS := by
      intro L1 f1 l1 e2 C KS hC hn
      subst e2
      refine wss_one (ws_if (wt_lt (w_mul (w_v 11 rfl (w_v 12 rfl ⟨_, _, rfl, rfl, mulOk b1 b2, w_int ⟨_, _, rfl, rfl, fun hz => ?_, fun hz => ?_⟩⟩)))))
      · have hz : s * t < 0 := of_decide_eq_true hz
        rw [if_pos hz] at hn
        have snS : Sm 2 (sn s t) := sn_sm
        refine wss_cons (ws_asg (w_tup (wa_cons (w_sub (w_v 12 rfl (w_v 11 rfl ⟨_, _, rfl, rfl, wa_cons (W.mono (K := fun d => d = .int (sn s t)) ?_ fun d e => ?_)⟩))))))
        · refine w_if (wt_gt (w_v 12 rfl (w_v 11 rfl ⟨_, _, rfl, rfl, fun hy => w_int ?_, fun hy => w_neg (w_int ⟨_, rfl, ?_⟩)⟩)))
          · rw [sn, if_pos (of_decide_eq_true hy)]
          · rw [sn, if_neg (of_decide_eq_false hy)]
        subst e
        refine wa_cons (w_ix (w_v 5 rfl (w_mod (w_add (w_v 10 rfl (w_int ⟨_, _, rfl, rfl, w_len B.len (w_v 5 rfl ⟨_, .inr rfl, ?_⟩)⟩))))))
        rw [prs_len]
        refine ⟨_, _, rfl, rfl, by omega, _, _, _, .inr rfl, rfl, by rw [emod]; exact getp _ hj, ?_⟩
        refine wa_nil ⟨by show 3 ≤ 1000; decide, wg_tup (wgs_cons fun _ => wg_name 13 (wgs_cons fun _ => wg_name 14 (wgs_cons fun _ => wg_name 15 (wgs_nil ?_) nd) nd) nd) rfl⟩
        have p1 := pre.sp _ hm
        have p2 := pre.sp _ hm2
        skip
        generalize ps[(i + 1) % ps.length] = q at hn p2 ⊢
        generalize ps[i] = p at hn p1 ⊢
        refine wss_cons (ws_setLc 16 (own := [("_law_mine", 17), ("_law_its", 18)]) (blk (by rfl)) nd ?_ (sw_true rfl rfl rfl rfl))
        refine wi_zipT B.zip (w_v 7 rfl (w_v 15 rfl ⟨rfl, rfl, _, _, rfl, rfl, rfl, fun Zs2 => ?_⟩))
        refine ⟨fun i d => d = .int (if i = 0 then (newP s t p q).1 else (newP s t p q).2), by show 2 ≤ 100000; decide, fun i d e => by rw [e]; rfl, fun i hi => ?_, fun ds dl dh => ?_⟩
        · have hi : i < 2 := hi
          have hi : i = 0 ∨ i = 1 := by omega
          rcases hi with rfl | rfl
          · intro s1 H c cl fp
            refine wgw_tup (wgws_cons (wgw_name 17 (wgws_cons (wgw_name 18 (wgws_nil ?_) (by decide) nd)) (by decide) nd)) rfl
            intro s2' H2 c2 cl2 fp2
            refine w_mul (w_sub (w_mul (w_v 17 rfl (w_v 12 rfl ⟨_, _, rfl, rfl, mulOk p1.1 b2, w_mul (w_v 18 rfl (w_v 11 rfl ⟨_, _, rfl, rfl, mulOk p2.1 b1, ?_⟩))⟩))))
            exact ⟨_, _, rfl, rfl, w_v 14 rfl ⟨_, _, rfl, rfl, mulOk ((p1.1.mul b2).sub (p2.1.mul b1)) snS, rfl⟩⟩
          · intro s1 H c cl fp
            refine wgw_tup (wgws_cons (wgw_name 17 (wgws_cons (wgw_name 18 (wgws_nil ?_) (by decide) nd)) (by decide) nd)) rfl
            intro s2' H2 c2 cl2 fp2
            refine w_mul (w_sub (w_mul (w_v 17 rfl (w_v 12 rfl ⟨_, _, rfl, rfl, mulOk p1.2 b2, w_mul (w_v 18 rfl (w_v 11 rfl ⟨_, _, rfl, rfl, mulOk p2.2 b1, ?_⟩))⟩))))
            exact ⟨_, _, rfl, rfl, w_v 14 rfl ⟨_, _, rfl, rfl, mulOk ((p1.2.mul b2).sub (p2.2.mul b1)) snS, rfl⟩⟩
        · have eN : ds = [.int (newP s t p q).1, .int (newP s t p q).2] := by
            have dl : ds.length = 2 := dl
            match ds, dl with
            | [a, c], _ =>
              rw [dh 0 a rfl, dh 1 c rfl]
              rfl
          subst eN
          have zS : Sm 5013 (t - s) := (b2.sub b1).mono (by decide)
          refine wss_cons (ws_app 8 rfl (by rw [List.length_map]; omega) (w_tup (wa_cons (w_tupOf B.tuple (w_v 16 rfl ⟨_, rfl, wa_cons (w_mul (w_v 13 rfl (w_v 14 rfl ⟨_, _, rfl, rfl, mulOk zS snS, wa_nil ⟨by show 2 ≤ 1000; decide, ?_⟩⟩)))⟩)))))
          refine wss_one (ws_set 9 (w_mul (w_mul (w_v 9 rfl (w_v 13 rfl ⟨_, _, rfl, rfl, mulOk smi.2 zS (by omega), w_v 14 rfl ⟨_, _, rfl, rfl, mulOk (smi.2.mul zS) snS (by omega), ?_⟩⟩)))) nd)
          have := hn (.val (pr p)) (.val (.int i)) (.val (.int s)) (.val (.int t)) (.val (.int (t - s))) (.val (.int (sn s t))) (.val (pr q)) (.val (.lst [.int (newP s t p q).1, .int (newP s t p q).2])) rfl
          rw [fac_app, f1, List.map_append, ← Int.mul_assoc] at this
          exact this
      · have hz : ¬ s * t < 0 := of_decide_eq_false hz
        rw [if_neg hz, List.append_nil] at hn
        refine wss_nil ?_
        rw [← f1]
        exact hn _ _ _ _ _ _ _ _ (by simp [noOw] at ho ⊢; simp [ho])
    have HN : ∀ o7 o10 o11 o12 o13 o14 o15 o16, noOw [o7, o10, o11, o12, o13, o14, o15, o16] = true → ∃ o7' o10' o11' o12' o13' o14' o15' o16', noOw [o7', o10', o11', o12', o13', o14', o15', o16'] = true ∧ i + 1 ≤ ps.length ∧ [SD.val (shD ⟨N, ps⟩), .val (.int pl), .val (pr b), .val (.int sg), .val (.int N), .val (.lst (prs ps)), .val (.lst (ps.map fun p => D.int (sideOf N pl b sg p))), o7,
          .own (L2.map itD2), .val (.int (fac L2)), o10, o11, o12, o13, o14, o15, o16, .no, .no, .no, .no] = [.val (shD ⟨N, ps⟩), .val (.int pl), .val (pr b), .val (.int sg), .val (.int N), .val (.lst (prs ps)), .val (.lst (ps.map fun p => D.int (sideOf N pl b sg p))), o7',
          .own ((cutL (sideOf N pl b sg) ps (i + 1)).map itD2), .val (.int (fac (cutL (sideOf N pl b sg) ps (i + 1)))), o10', o11', o12', o13', o14', o15', o16', .no, .no, .no, .no] := fun a1 a2 a3 a4 a5 a6 a7 a8 h => ⟨a1, a2, a3, a4, a5, a6, a7, a8, h, hi, by rw [hL2]⟩
    refine wss_cons (ws_if (wt_ge (w_v 11 rfl (w_int ⟨_, _, rfl, rfl, fun hz => ?_, fun hz => wss_nil ?_⟩))))
    · have hz : 0 ≤ s := of_decide_eq_true hz
      rw [if_pos hz, ← List.append_assoc] at cs
      refine wss_one (ws_app 8 rfl (by rw [List.length_map]; omega) (w_tup (wa_cons (w_v 7 rfl (wa_cons (w_int (wa_nil ⟨by show 2 ≤ 1000; decide, ?_⟩)))))))
      rw [show List.map itD2 L ++ [D.tup [pr ps[i], D.int 1]] = (L ++ [(ps[i], 1)]).map itD2 by rw [List.map_append]; rfl]
      refine rest (L ++ [(ps[i], 1)]) (by rw [fac_app]; simp) (by simp) cs _ _ rfl ?_
      exact HN
    · have hz : ¬ 0 ≤ s := of_decide_eq_false hz
      rw [if_neg hz, List.nil_append] at cs
      refine rest L rfl (by omega) cs _ _ rfl ?_
      exact HN
  · rintro G ⟨o7, o10, o11, o12, o13, o14, o15, o16, ho, hi1, rfl⟩
    have pp := pre.plain
    have smi := sm ps.length (Nat.le_refl _)
    have smf' := smf ps.length (Nat.le_refl _)
    have hcl := cutL_len (sideOf N pl b sg) ps ps.length
    unfold CutR at k
    simp only at k pp smi
    generalize cutL (sideOf N pl b sg) ps ps.length = L at k pp smi smf' hcl ⊢
    have no : noOw [SD.val (shD ⟨N, ps⟩), .val (.int pl), .val (pr b), .val (.int sg), .val (.int N), .val (.lst (prs ps)), .val (.lst (ps.map fun p => D.int (sideOf N pl b sg p))), o7, .val (.lst (L.map itD2)), .val (.int (fac L)), o10, o11, o12, o13, o14, o15, o16, .no, .no, .no, .no] = true := by simpa [noOw] using ho
    refine wss_freeze 8 rfl (wss_one (ws_ret (w_callL gp hr no (wa_cons ?_))))
    have mo : MulOk N (fac L) := mulOk pre.sN smf'.2 (by omega)
    refine w_mul (w_v 4 rfl (w_v 9 rfl ⟨_, _, rfl, rfl, mo, ?_⟩))
    refine wa_cons (w_lc (own := [("_law_x", 19), ("_law_y", 20), ("_law_size", 13)]) (blk (by rfl)) nd ?_)
    refine wi_list (w_v 8 rfl ⟨_, rfl, fun Zs2 => ?_⟩)
    rw [List.length_map]
    refine ⟨fun i d => ∃ h : i < L.length, d = pr (L[i].1.1 * fac L / L[i].2, L[i].1.2 * fac L / L[i].2), by omega, fun i d e => by obtain ⟨_, e⟩ := e; rw [e]; rfl, fun i hi => ?_, fun ds dl dh => ?_⟩
    · rw [show nthD (L.map itD2) i = itD2 L[i] from nthD_map hi]
      intro s H c cl fp
      obtain ⟨z1, z2, z3, z4⟩ := smi _ (List.getElem_mem hi)
      refine wgw_tup (wgws_cons (wgw_tup (wgws_cons (wgw_name 19 (wgws_cons (wgw_name 20 (wgws_nil (wgws_cons (wgw_name 13 (wgws_nil ?_) (by decide) nd))) (by decide) nd)) (by decide) nd)) rfl)) rfl
      intro s2' H2 c2 cl2 fp2
      refine w_pair (w_div (w_mul (w_v 19 rfl (w_v 9 rfl ⟨_, _, rfl, rfl, mulOk z3 smf'.2 (by omega), w_v 13 rfl ⟨_, _, rfl, rfl, divOk z1 z2, ?_⟩⟩))))
      exact w_div (w_mul (w_v 20 rfl (w_v 9 rfl ⟨_, _, rfl, rfl, mulOk z4 smf'.2 (by omega), w_v 13 rfl ⟨_, _, rfl, rfl, divOk z1 z2, _, _, rfl, rfl, hi, rfl⟩⟩)))
    · have e : ds = prs (cutP L) := by
        refine List.ext_getElem? fun i => ?_
        by_cases hi : i < L.length
        · rw [List.getElem?_eq_getElem (by omega)]
          obtain ⟨_, e⟩ := dh i _ (List.getElem?_eq_getElem (by omega))
          rw [e]
          unfold prs cutP
          rw [List.map_map, List.getElem?_map, List.getElem?_eq_getElem hi]
          rfl
        · rw [List.getElem?_eq_none (by omega), List.getElem?_eq_none (by rw [prs_len, cutP, List.length_map]; omega)]
      subst e
      exact wa_nil ⟨_, _, rfl, pp, k⟩
end
end FL
end
section
set_option Elab.async false
set_option linter.all false
set_option maxRecDepth 100000
set_option pp.maxSteps 200
/-! led_on, begun, behind. -/
namespace FL
open PySem PySem.Spec PyProof.Rows L2 FM
section
variable {P : Program} {w : World} {K : PySem.W.Frag} {mg : Str → Option Value} {base : Heap}
def F_led : Md → List D → (D → Prop) → Prop := fun M ds K => ∃ (b : Pm) (S : Sh), ds = [bD b, shD S] ∧ b.Ok ∧ LedPre (fr b.dr).1 (fr b.dr).2 b.cell S ∧ ∀ S', LedR (fr b.dr).1 (fr b.dr).2 b.cell S S' → K (shD S')
def ledQ (n d : Int) (N : Int) (p : Pt) : List Pt := [(p.1 * d + (p.2 * d - n * N), p.2 * d - n * N), (p.1 * d + (p.2 * d + n * N), p.2 * d + n * N)]
theorem ledP_take {n d : Int} {S : Sh} {i : Nat} (h : i < S.ps.length) : (S.ps.take (i + 1)).flatMap (ledQ n d S.N) = (S.ps.take i).flatMap (ledQ n d S.N) ++ ledQ n d S.N S.ps[i] := by
  rw [List.take_succ_eq_append_getElem h, List.flatMap_append]
  simp
theorem led_len {n d N : Int} {ps : List Pt} : (ps.flatMap (ledQ n d N)).length = 2 * ps.length := by
  induction ps with
  | nil => rfl
  | cons p ps ih =>
    rw [List.flatMap_cons, List.length_append, ih, List.length_cons]
    show 2 + _ = _
    omega
theorem prs_app {a b : List Pt} : prs (a ++ b) = prs a ++ prs b := List.map_append
set_option maxHeartbeats 2000000 in
theorem ok_led {kc kh : Nat} (hk : kh ≤ kc) (d : Df K mg "_law_led_on" s_law_led_on ["_law_bounds", "_law_shape"]) (gh : FnR P w K mg base "_law_hull" kh F_hull) (gc : FnR P w K mg base "_law_cut" kc F_cut) : FnR P w K mg base "_law_led_on" (kc + 1) F_led := by
  refine fnD d sc_law_led_on (by rintro M ds Kp ⟨a, b, rfl, _⟩; rfl) fun f cdv A outer s H E M Kp ds hr h => ?_
  obtain ⟨b, S, rfl, hb, pre, k⟩ := h
  obtain ⟨N, ps⟩ := S
  have nd := sc_law_led_on.nd
  have hlen : ps.length ≤ 88 := pre.len
  have sN : Sm 3000 N := pre.sN
  have sp : ∀ p ∈ ps, Sm 3000 p.1 ∧ Sm 3000 p.2 := pre.sp
  have s1 := pre.sn1
  have s2 := pre.sd
  have d0 := pre.d0
  generalize hn : (fr b.dr).1 = n at *
  generalize hd : (fr b.dr).2 = d at *
  have efr : fr b.dr = (n, d) := by rw [← hn, ← hd]
  refine wss_cons (ws_asg (w_v 1 rfl (wg_tup (wgs_cons fun _ => wg_name 2 (wgs_cons fun _ => wg_name 3 (wgs_nil ?_) nd) nd) rfl)))
  refine wss_cons (ws_asg (w_ix (w_v 0 rfl (w_int ⟨_, _, pr (fr b.dr), .inl rfl, rfl, rfl, ?_⟩))))
  rw [efr]
  refine wg_tup (wgs_cons fun _ => wg_name 4 (wgs_cons fun _ => wg_name 5 (wgs_nil ?_) nd) nd) rfl
  refine wss_cons (ws_setLst 6 (wa_nil ⟨by show 0 ≤ 1000; decide, ?_⟩) nd)
  refine wss_cons (ws_for (wi_list (w_v 3 rfl ⟨_, rfl, fun Zs => ?_⟩)))
  rw [prs_len]
  refine ⟨fun i G => ∃ o7 o8 o9, noOw [o7, o8, o9] = true ∧ i ≤ ps.length ∧ G = [.val (bD b), .val (shD ⟨N, ps⟩), .val (.int N), .val (.lst (prs ps)), .val (.int n), .val (.int d), .own (prs ((ps.take i).flatMap (ledQ n d N))), o7, o8, o9], ⟨.no, .no, .no, rfl, Nat.zero_le _, rfl⟩, ?_, ?_⟩
  · rintro i G hi ⟨o7, o8, o9, ho, hi1, rfl⟩
    replace hi : i < ps.length := hi
    rw [nthD_prs hi]
    obtain ⟨p1, p2⟩ := sp _ (List.getElem_mem hi)
    have hl : ((ps.take i).flatMap (ledQ n d N)).length ≤ 200 := by rw [led_len, List.length_take]; omega
    have et := ledP_take (n := n) (d := d) (S := ⟨N, ps⟩) hi
    simp only at et
    generalize (ps.take i).flatMap (ledQ n d N) = L at et hl ⊢
    generalize ps[i] = p at et p1 p2 ⊢
    refine wg_tup (wgs_cons fun _ => wg_name 7 (wgs_cons fun _ => wg_name 8 (wgs_nil ?_) nd) nd) rfl
    have m1 : MulOk p.2 d := mulOk p2 s2
    have m2 : MulOk n N := mulOk s1 sN
    have m3 : MulOk p.1 d := mulOk p1 s2
    refine wss_one (ws_for (wi_tup (w_tup (wa_cons (w_sub (w_mul (w_v 8 rfl (w_v 5 rfl ⟨_, _, rfl, rfl, m1, w_mul (w_v 4 rfl (w_v 2 rfl ⟨_, _, rfl, rfl, m2, _, _, rfl, rfl, ?_⟩))⟩))))))))
    refine wa_cons (w_add (w_mul (w_v 8 rfl (w_v 5 rfl ⟨_, _, rfl, rfl, m1, w_mul (w_v 4 rfl (w_v 2 rfl ⟨_, _, rfl, rfl, m2, _, _, rfl, rfl, ?_⟩))⟩))))
    refine wa_nil ⟨by show 2 ≤ 1000; decide, _, rfl, fun Zs2 => ?_⟩
    refine ⟨fun j G => ∃ o9, noOw [o9] = true ∧ G = [.val (bD b), .val (shD ⟨N, ps⟩), .val (.int N), .val (.lst (prs ps)), .val (.int n), .val (.int d), .own (prs (L ++ (ledQ n d N p).take j)), .val (.int p.1), .val (.int p.2), o9], ⟨o9, by simp [noOw] at ho ⊢; simp [ho], by rw [List.take_zero, List.append_nil]; rfl⟩, ?_, ?_⟩
    · rintro j G hj ⟨o9, ho9, rfl⟩
      have hj : j < 2 := hj
      have hj : j = 0 ∨ j = 1 := by omega
      rcases hj with rfl | rfl
      · refine wg_name 9 ?_ nd
        refine wss_one (ws_app 6 rfl (by rw [prs_len, List.take_zero, List.append_nil]; omega) (w_pair (w_add (w_mul (w_v 7 rfl (w_v 5 rfl ⟨_, _, rfl, rfl, m3, w_v 9 rfl ⟨_, _, rfl, rfl, w_v 9 rfl ⟨_, _, rfl, rfl, .val (.int (p.2 * d - n * N)), rfl, ?_⟩⟩⟩))))))
        rw [List.take_zero, List.append_nil, show L ++ (ledQ n d N p).take (0 + 1) = L ++ [(p.1 * d + (p.2 * d - n * N), p.2 * d - n * N)] from rfl, prs_app]
        rfl
      · refine wg_name 9 ?_ nd
        refine wss_one (ws_app 6 rfl (by rw [prs_len, List.length_append, List.length_take]; omega) (w_pair (w_add (w_mul (w_v 7 rfl (w_v 5 rfl ⟨_, _, rfl, rfl, m3, w_v 9 rfl ⟨_, _, rfl, rfl, w_v 9 rfl ⟨_, _, rfl, rfl, .val (.int (p.2 * d + n * N)), rfl, ?_⟩⟩⟩))))))
        rw [show L ++ (ledQ n d N p).take (1 + 1) = (L ++ (ledQ n d N p).take 1) ++ [(p.1 * d + (p.2 * d + n * N), p.2 * d + n * N)] by rw [List.append_assoc]; rfl, prs_app (a := L ++ (ledQ n d N p).take 1)]
        rfl
    · rintro G ⟨o9, ho9, rfl⟩
      refine ⟨.val (.int p.1), .val (.int p.2), o9, by simp [noOw] at ho9 ⊢; simp [ho9], hi, ?_⟩
      rw [et]
      rfl
  · rintro G ⟨o7, o8, o9, ho, hi1, rfl⟩
    rw [List.take_length]
    have k0 : ∀ S', LedR n d b.cell ⟨N, ps⟩ S' → Kp (shD S') := k
    have pc : ∀ hs, Hul (ps.flatMap (ledQ n d N)) hs → CutPre ⟨N * d, hs⟩ 1 (b.cell, 1) 1 := pre.cut
    have kk : ∀ hs, Hul (ps.flatMap (ledQ n d N)) hs → ∀ S', CutR ⟨N * d, hs⟩ 1 (b.cell, 1) 1 S' → Kp (shD S') := fun hs h1 S' h2 => k0 S' ⟨hs, h1, h2⟩
    have hl : (ps.flatMap (ledQ n d N)).length ≤ 200 := by rw [led_len]; omega
    have hq : ∀ q ∈ ps.flatMap (ledQ n d N), Sm 5000 q.1 ∧ Sm 5000 q.2 := by
      intro q hq
      obtain ⟨p, hp, hq⟩ := List.mem_flatMap.mp hq
      obtain ⟨p1, p2⟩ := sp p hp
      have a1 : Sm 3031 (p.2 * d - n * N) := ((p2.mul s2).mono (by decide)).sub ((s1.mul sN).mono (by decide))
      have a2 : Sm 3031 (p.2 * d + n * N) := ((p2.mul s2).mono (by decide)).add ((s1.mul sN).mono (by decide))
      have a3 : Sm 3031 (p.1 * d) := (p1.mul s2).mono (by decide)
      unfold ledQ at hq
      rcases List.mem_cons.mp hq with rfl | hq
      · exact ⟨(a3.add a1).mono (by decide), a1.mono (by decide)⟩
      · have e9 := List.mem_singleton.mp hq
        subst e9
        exact ⟨(a3.add a2).mono (by decide), a2.mono (by decide)⟩
    generalize ps.flatMap (ledQ n d N) = L at pc kk hl hq ⊢
    have no : noOw [SD.val (bD b), .val (shD ⟨N, ps⟩), .val (.int N), .val (.lst (prs ps)), .val (.int n), .val (.int d), .val (.lst (prs L)), o7, o8, o9] = true := by simpa [noOw] using ho
    refine wss_freeze 6 rfl (wss_one (ws_ret (w_callL gc hr no (wa_cons (w_tup (wa_cons (w_mul (w_v 2 rfl (w_v 5 rfl ⟨_, _, rfl, rfl, mulOk sN s2, ?_⟩)))))))))
    refine wa_cons (w_callL gh (hr.mono hk) no (wa_cons (w_v 6 rfl (wa_nil ⟨L, rfl, by omega, hq, fun hs h1 => ?_⟩))))
    refine wa_nil ⟨by show 2 ≤ 1000; decide, wa_cons (w_int (wa_cons (w_pair (w_ix (w_v 0 rfl (w_int ⟨_, _, .int b.cell, .inl rfl, rfl, rfl, w_int ⟨_, _, rfl, rfl, wa_cons (w_int ?_)⟩⟩))))))⟩
    exact wa_nil ⟨⟨N * d, hs⟩, 1, (b.cell, 1), 1, rfl, pc hs h1, kk hs h1⟩
theorem Bq.fr300 {x : Int} (h : Sm 300 x) : Bq 309 (fr x) := Bq.fr h
structure BegPre (b : Pm) (f m : Int) : Prop where
  sf : Sm 300 f
  sm : Sm 300 m
  pre : ¬ (fr (m - f + b.sh * 2)).1 * 1 < b.cell * (fr (m - f + b.sh * 2)).2 → PlainPre ((fr (f - b.sh)).2 * (fr (f + b.sh)).2 * (fr (m - f + b.sh * 2)).2) (begP (fr (f - b.sh)) (fr (f + b.sh)) (fr (m - f + b.sh * 2)) b.cell)
abbrev BegB (b : Pm) (f m : Int) (S : Sh) : Prop := BegR b.cell (fr (f - b.sh)) (fr (f + b.sh)) (fr (m - f + b.sh * 2)) S
def F_beg : Md → List D → (D → Prop) → Prop := fun M ds K => ∃ (b : Pm) (f m : Int), ds = [bD b, pr (fr f), pr (fr m)] ∧ b.Ok ∧ BegPre b f m ∧ ∀ S, BegB b f m S → K (shD S)
def begQ (N : Int) (bg lg : Int × Int) : Pt := (bg.1 * (N / bg.2) + lg.1 * (N / lg.2), lg.1 * (N / lg.2))
set_option maxHeartbeats 2000000 in
theorem ok_beg {kp : Nat} (d : Df K mg "_law_begun" s_law_begun ["_law_bounds", "_law_first", "_law_moment"]) (gl : FnR P w K mg base "_law_less" 3 (F_two sub)) (ga : FnR P w K mg base "_law_add" 3 F_added) (gm : FnR P w K mg base "_law_many" 3 F_many) (gb : FnR P w K mg base "_law_is_below" 1 F_below) (gp : FnR P w K mg base "_law_plain_shape" (kp + 3) F_plain) : FnR P w K mg base "_law_begun" (kp + 4) F_beg := by
  refine fnD d sc_law_begun (by rintro M ds Kp ⟨a, b, c, rfl, _⟩; rfl) fun f cdv A outer s H E M Kp ds hr h => ?_
  obtain ⟨b, fi, mo, rfl, hb, pre, k⟩ := h
  have nd := sc_law_begun.nd
  have h3 : Room 3 (XC P w K mg base n_law_begun "_law_begun" s_law_begun f cdv A outer s H E).A := hr.mono (by omega)
  have h1 : Room 1 (XC P w K mg base n_law_begun "_law_begun" s_law_begun f cdv A outer s H E).A := hr.mono (by omega)
  have ss : Sm 300 b.sh := hb.ss.mono (by decide)
  have bf := Bq.fr300 pre.sf
  have bm := Bq.fr300 pre.sm
  have bs := hb.bs
  have q1 : Bq 310 (fr (fi - b.sh)) := Bq.fr (pre.sf.sub ss)
  have q2 : Bq 310 (fr (fi + b.sh)) := Bq.fr (pre.sf.add ss)
  have s22 : Sm 301 (b.sh * 2) := (hb.ss.mul (Sm.of (a := 2) (x := 2) 2 (by decide))).mono (by decide)
  have q3 : Bq 312 (fr (mo - fi + b.sh * 2)) := (Bq.fr ((pre.sm.sub pre.sf).add s22)).mono (by decide)
  have kk : ∀ S, BegR b.cell (fr (fi - b.sh)) (fr (fi + b.sh)) (fr (mo - fi + b.sh * 2)) S → Kp (shD S) := k
  have pp := pre.pre
  refine wss_cons (ws_par2 3 4 (w_call gl h3 (wa_cons (w_v 1 rfl (wa_cons (w_ix (w_v 0 rfl (w_int ⟨_, _, pr (fr b.sh), .inl rfl, rfl, rfl, wa_nil ⟨_, _, rfl, bf.mono (by decide), bs.mono (by decide), rfl, ?_⟩⟩))))))) nd)
  rw [sub_fr]
  refine w_call ga h3 (wa_cons (w_v 1 rfl (wa_cons (w_ix (w_v 0 rfl (w_int ⟨_, _, pr (fr b.sh), .inl rfl, rfl, rfl, wa_nil ⟨_, _, rfl, bf.mono (by decide), bs.mono (by decide), rfl, ?_⟩⟩))))))
  rw [add_fr]
  refine wss_cons (ws_set 5 (w_call ga h3 (wa_cons (w_call gl h3 (wa_cons (w_v 2 rfl (wa_cons (w_v 1 rfl (wa_nil ⟨_, _, rfl, bm.mono (by decide), bf.mono (by decide), rfl, ?_⟩)))))))) nd)
  rw [sub_fr]
  refine wa_cons (w_call gm h3 (wa_cons (w_ix (w_v 0 rfl (w_int ⟨_, _, pr (fr b.sh), .inl rfl, rfl, rfl, wa_cons (w_int (wa_nil ⟨_, _, rfl, bs.mono (by decide), (Sm.of (a := 2) (x := 2) 2 (by decide)).mono (by decide), rfl, ?_⟩))⟩)))))
  rw [many_fr]
  refine wa_nil ⟨_, _, rfl, (Bq.fr (pre.sm.sub pre.sf)).mono (by decide), (Bq.fr s22).mono (by decide), rfl, ?_⟩
  rw [add_fr]
  generalize fr (fi - b.sh) = lo at *
  generalize fr (fi + b.sh) = hg at *
  generalize fr (mo - fi + b.sh * 2) = lg at *
  have qc : Bq 310 (b.cell, 1) := (Bq1 hb.c2).mono (by decide)
  refine wss_cons (ws_if (wt_val (w_call gb h1 (wa_cons (w_v 5 rfl (wa_cons (w_pair (w_ix (w_v 0 rfl (w_int ⟨_, _, .int b.cell, .inl rfl, rfl, rfl, w_int ⟨_, _, rfl, rfl, wa_nil ⟨lg, (b.cell, 1), rfl, q3.mono (by decide), qc.mono (by decide), rfl, _, rfl, fun hz => ?_, fun hz => wss_nil ?_⟩⟩⟩))))))))))
  · have hz : lg.1 * 1 < b.cell * lg.2 := of_decide_eq_true hz
    exact wss_one (ws_ret (w_tup (wa_cons (w_int (wa_cons (w_lst (wa_nil ⟨by show 0 ≤ 1000; decide, wa_nil ⟨by show 2 ≤ 1000; decide, kk ⟨1, []⟩ (.inl ⟨hz, rfl⟩)⟩⟩)))))))
  have hz : ¬ lg.1 * 1 < b.cell * lg.2 := of_decide_eq_false hz
  have p2 := pp hz
  have m1 : MulOk lo.2 hg.2 := mulOk q1.d q2.d
  have m2 : MulOk (lo.2 * hg.2) lg.2 := mulOk (q1.d.mul q2.d) q3.d
  refine wss_cons (ws_set 6 (w_mul (w_mul (w_p1 3 rfl (w_p1 4 rfl ⟨_, _, rfl, rfl, m1, w_p1 5 rfl ⟨_, _, rfl, rfl, m2, ?_⟩⟩)))) nd)
  have sN : Sm 940 (lo.2 * hg.2 * lg.2) := ((q1.d.mul q2.d).mul q3.d).mono (by decide)
  have kk2 : ∀ S, PlainR (lo.2 * hg.2 * lg.2) (begP lo hg lg b.cell) S → Kp (shD S) := fun S h => kk S (.inr ⟨hz, h⟩)
  have eb : begP lo hg lg b.cell = [begQ (lo.2 * hg.2 * lg.2) lo (b.cell, 1), begQ (lo.2 * hg.2 * lg.2) lo lg, begQ (lo.2 * hg.2 * lg.2) hg (b.cell, 1), begQ (lo.2 * hg.2 * lg.2) hg lg] := rfl
  rw [eb] at kk2 p2
  clear eb kk pp k
  generalize lo.2 * hg.2 * lg.2 = N at *
  refine wss_cons (ws_setLst 7 (wa_nil ⟨by show 0 ≤ 1000; decide, ?_⟩) nd)
  -- one begin
  have turn : ∀ (bg : Int × Int), Bq 312 bg → ∀ (L : List Pt), L.length ≤ 10 → ∀ (C : Cn) (o9 o10 : SD) (KS : KD), noOw [o9, o10] = true → (∀ o9 o10, noOw [o9, o10] = true → KS.nx [.val (bD b), .val (pr (fr fi)), .val (pr (fr mo)), .val (pr lo), .val (pr hg), .val (pr lg), .val (.int N), .own (prs (L ++ [begQ N bg (b.cell, 1), begQ N bg lg])), .val (pr bg), o9, o10]) →
      WSs (XC P w K mg base n_law_begun "_law_begun" s_law_begun f cdv A outer s H E) C [.val (bD b), .val (pr (fr fi)), .val (pr (fr mo)), .val (pr lo), .val (pr hg), .val (pr lg), .val (.int N), .own (prs L), .val (pr bg), o9, o10] (inB (defBody s_law_begun) 5) KS := by
    intro bg qb L hL C o9 o10 KS ho hn
    have one : ∀ (ll : Int × Int), Bq 312 ll → ∀ (L : List Pt), L.length ≤ 20 → ∀ (C : Cn) (o10 : SD) (KS : KD), (KS.nx [.val (bD b), .val (pr (fr fi)), .val (pr (fr mo)), .val (pr lo), .val (pr hg), .val (pr lg), .val (.int N), .own (prs (L ++ [begQ N bg ll])), .val (pr bg), .val (pr ll), .val (.int (ll.1 * (N / ll.2)))]) →
        WSs (XC P w K mg base n_law_begun "_law_begun" s_law_begun f cdv A outer s H E) C [.val (bD b), .val (pr (fr fi)), .val (pr (fr mo)), .val (pr lo), .val (pr hg), .val (pr lg), .val (.int N), .own (prs L), .val (pr bg), .val (pr ll), o10] (inB (inB (defBody s_law_begun) 5) 0) KS := by
      intro ll ql L hL C o10 KS hn
      have d1 : DivOk N ll.2 := divOk ql.pos ql.d
      have d2 : DivOk N bg.2 := divOk qb.pos qb.d
      have m3 : MulOk ll.1 (N / ll.2) := mulOk ql.n sN.div
      have m4 : MulOk bg.1 (N / bg.2) := mulOk qb.n sN.div
      refine wss_cons (ws_set 10 (w_mul (w_p0 9 rfl (w_div (w_v 6 rfl (w_p1 9 rfl ⟨_, _, rfl, rfl, d1, _, _, rfl, rfl, m3, ?_⟩))))) nd)
      refine wss_one (ws_app 7 rfl (by rw [prs_len]; omega) (w_pair (w_add (w_mul (w_p0 8 rfl (w_div (w_v 6 rfl (w_p1 8 rfl ⟨_, _, rfl, rfl, d2, _, _, rfl, rfl, m4, w_v 10 rfl ⟨_, _, rfl, rfl, w_v 10 rfl ⟨_, _, rfl, rfl, ?_⟩⟩⟩))))))))
      rw [prs_app] at hn
      exact hn
    refine wss_one (ws_for (wi_tup (w_tup (wa_cons (w_pair (w_ix (w_v 0 rfl (w_int ⟨_, _, .int b.cell, .inl rfl, rfl, rfl, w_int ⟨_, _, rfl, rfl, wa_cons (w_v 5 rfl (wa_nil ⟨by show 2 ≤ 1000; decide, _, rfl, fun Zs => ?_⟩))⟩⟩))))))))
    refine ⟨fun i G => ∃ o9 o10, noOw [o9, o10] = true ∧ G = [.val (bD b), .val (pr (fr fi)), .val (pr (fr mo)), .val (pr lo), .val (pr hg), .val (pr lg), .val (.int N), .own (prs (L ++ [begQ N bg (b.cell, 1), begQ N bg lg].take i)), .val (pr bg), o9, o10], ⟨o9, o10, ho, by rw [List.take_zero, List.append_nil]⟩, ?_, ?_⟩
    · rintro i G hi ⟨o9, o10, ho, rfl⟩
      have hi : i < 2 := hi
      have hi : i = 0 ∨ i = 1 := by omega
      rcases hi with rfl | rfl
      · refine wg_name 9 ?_ nd
        refine one (b.cell, 1) (qc.mono (by decide)) (L ++ [begQ N bg (b.cell, 1), begQ N bg lg].take 0) (by simp; omega) _ _ _ ⟨.val (pr (b.cell, 1)), .val (.int (b.cell * (N / 1))), rfl, ?_⟩
        rw [List.append_assoc]
        rfl
      · refine wg_name 9 ?_ nd
        refine one lg q3 (L ++ [begQ N bg (b.cell, 1), begQ N bg lg].take 1) (by simp; omega) _ _ _ ⟨.val (pr lg), .val (.int (lg.1 * (N / lg.2))), rfl, ?_⟩
        rw [List.append_assoc]
        rfl
    · rintro G ⟨o9, o10, ho, rfl⟩
      exact hn o9 o10 ho
  refine wss_cons (ws_for (wi_tup (w_tup (wa_cons (w_v 3 rfl (wa_cons (w_v 4 rfl (wa_nil ⟨by show 2 ≤ 1000; decide, _, rfl, fun Zs => ?_⟩))))))))
  refine ⟨fun i G => ∃ o8 o9 o10, noOw [o8, o9, o10] = true ∧ G = [.val (bD b), .val (pr (fr fi)), .val (pr (fr mo)), .val (pr lo), .val (pr hg), .val (pr lg), .val (.int N), .own (prs ([begQ N lo (b.cell, 1), begQ N lo lg, begQ N hg (b.cell, 1), begQ N hg lg].take (2 * i))), o8, o9, o10], ⟨.no, .no, .no, rfl, rfl⟩, ?_, ?_⟩
  · rintro i G hi ⟨o8, o9, o10, ho, rfl⟩
    have hi : i < 2 := hi
    have hi : i = 0 ∨ i = 1 := by omega
    rcases hi with rfl | rfl
    · refine wg_name 8 ?_ nd
      refine turn lo (q1.mono (by decide)) _ (by simp) _ _ _ _ (by simp [noOw] at ho ⊢; simp [ho]) ?_
      intro o9 o10 h
      exact ⟨.val (pr lo), o9, o10, by simp [noOw] at h ⊢; simp [h], rfl⟩
    · refine wg_name 8 ?_ nd
      refine turn hg (q2.mono (by decide)) _ (by simp) _ _ _ _ (by simp [noOw] at ho ⊢; simp [ho]) ?_
      intro o9 o10 h
      exact ⟨.val (pr hg), o9, o10, by simp [noOw] at h ⊢; simp [h], rfl⟩
  · rintro G ⟨o8, o9, o10, ho, rfl⟩
    have no : noOw [SD.val (bD b), .val (pr (fr fi)), .val (pr (fr mo)), .val (pr lo), .val (pr hg), .val (pr lg), .val (.int N), .val (.lst (prs [begQ N lo (b.cell, 1), begQ N lo lg, begQ N hg (b.cell, 1), begQ N hg lg])), o8, o9, o10] = true := by simpa [noOw] using ho
    refine wss_freeze 7 rfl (wss_one (ws_ret (w_callL gp hr no (wa_cons (w_v 6 rfl (wa_cons (w_v 7 rfl (wa_nil ⟨N, _, rfl, p2, kk2⟩))))))))
end
end FL
end
section
set_option Elab.async false
set_option linter.all false
set_option maxRecDepth 100000
set_option pp.maxSteps 200
/-! behind. -/
namespace FL
open PySem PySem.Spec PyProof.Rows L2 FM
def oD : Option Sh → D
  | none => .non
  | some S => shD S
section
variable {P : Program} {w : World} {K : PySem.W.Frag} {mg : Str → Option Value} {base : Heap}
abbrev LedB (b : Pm) (S S' : Sh) : Prop := LedR (fr b.dr).1 (fr b.dr).2 b.cell S S'
/-- one cell more -/
def StepR (b : Pm) (f m : Int) : Option Sh → Sh → Prop
  | none, S => BegB b f m S
  | some S0, S => LedB b S0 S
def StepPre (b : Pm) (f m : Int) : Option Sh → Prop
  | none => BegPre b f m
  | some S0 => LedPre (fr b.dr).1 (fr b.dr).2 b.cell S0
structure Behind (b : Pm) (f m : Int) (run : Nat) (o : Option Sh) (Q : Sh → Prop) : Prop where
  sf : Sm 300 f
  sm : Sm 300 m
  r1 : 1 ≤ run
  r2 : run ≤ 1000
  ex : ∃ I : Nat → Option Sh → Prop, I 0 o ∧ (∀ k o, k < run → I k o → StepPre b f m o ∧ ∀ S, StepR b f m o S → (S.ps = [] → Q S) ∧ (S.ps ≠ [] → I (k + 1) (some S))) ∧
    ∀ S, I run (some S) → CutPre S 0 (fr (m - b.sh)) 1 ∧ ∀ S1, CutR S 0 (fr (m - b.sh)) 1 S1 → (S1.ps = [] → Q S1) ∧ (S1.ps ≠ [] → CutPre S1 0 (fr (m + b.sh)) (-1) ∧ ∀ S2, CutR S1 0 (fr (m + b.sh)) (-1) S2 → Q S2)
def F_behind : Md → List D → (D → Prop) → Prop := fun M ds K => ∃ (b : Pm) (f m : Int) (run : Nat) (o : Option Sh), ds = [bD b, oD o, pr (fr f), .int run, pr (fr m)] ∧ b.Ok ∧ Behind b f m run o fun S => K (shD S)
theorem isEmpty_iff' {α : Type} {l : List α} : l.isEmpty = true ↔ l = [] := List.isEmpty_iff
set_option maxHeartbeats 2000000 in
theorem ok_behind {kb kl kc k : Nat} (h1 : kb ≤ k) (h2 : kl ≤ k) (h3 : kc ≤ k) (h4 : 3 ≤ k) (B : Bt mg) (d : Df K mg "_law_behind" s_law_behind ["_law_bounds", "_law_shape", "_law_first", "_law_run", "_law_moment"]) (gb : FnR P w K mg base "_law_begun" kb F_beg) (gl : FnR P w K mg base "_law_led_on" kl F_led) (gc : FnR P w K mg base "_law_cut" kc F_cut)
    (gs : FnR P w K mg base "_law_less" 3 (F_two sub)) (ga : FnR P w K mg base "_law_add" 3 F_added) : FnR P w K mg base "_law_behind" (k + 1) F_behind := by
  refine fnD d sc_law_behind (by rintro M ds Kp ⟨a, b, c, d, e, rfl, _⟩; rfl) fun f cdv A outer s H E M Kp ds hr h => ?_
  obtain ⟨b, fi, mo, run, o, rfl, hb, sf, sm, r1, r2, I, i0, st, fin⟩ := h
  have nd := sc_law_behind.nd
  have hu : (XC P w K mg base n_law_behind "_law_behind" s_law_behind f cdv A outer s H E).A.units + 64 < cLine := hr.units
  have bs := hb.bs
  have bm : Bq 309 (fr mo) := Bq.fr sm
  refine wss_cons (ws_for (wi_range1 B.range (w_v 3 rfl ⟨_, rfl, by omega, by omega, fun Zs => ?_⟩)))
  rw [Int.toNat_natCast]
  refine ⟨fun i G => ∃ o' o5, noOw [o5] = true ∧ (1 ≤ i → ∃ S, o' = some S) ∧ I i o' ∧ G = [.val (bD b), .val (oD o'), .val (pr (fr fi)), .val (.int run), .val (pr (fr mo)), o5], ⟨o, .no, rfl, fun z => absurd z (by decide), i0, rfl⟩, ?_, ?_⟩
  · rintro i G hi ⟨o', o5, ho, hs, ii, rfl⟩
    obtain ⟨sp, sn⟩ := st i o' hi ii
    refine wg_name 5 ?_ nd
    have tail : ∀ S, StepR b fi mo o' S → ∀ (C : Cn) (KS : KD), KS.rt = Kp → (∀ S, I (i + 1) (some S) → KS.nx [.val (bD b), .val (shD S), .val (pr (fr fi)), .val (.int run), .val (pr (fr mo)), .val (.int i)]) →
        WSs (XC P w K mg base n_law_behind "_law_behind" s_law_behind f cdv A outer s H E) C [.val (bD b), .val (shD S), .val (pr (fr fi)), .val (.int run), .val (pr (fr mo)), .val (.int i)] ((inB (defBody s_law_behind) 0).drop 1) KS := by
      intro S hS C KS hk hn
      obtain ⟨q1, q2⟩ := sn S hS
      refine wss_one (ws_if (wt_eqNil hu (w_ix (w_v 1 rfl (w_int ⟨_, _, .lst (prs S.ps), .inl rfl, rfl, rfl, S.ps, rfl, fun hz => ?_, fun hz => wss_nil ?_⟩)))))
      · refine wss_one (ws_ret (w_v 1 rfl ?_))
        rw [hk]
        exact q1 (isEmpty_iff'.mp hz)
      · exact hn S (q2 fun e => by rw [e] at hz; cases hz)
    refine wss_cons (ws_set 1 (w_if (wt_isN (w_v 1 rfl ⟨fun hz => ?_, fun hz => ?_⟩))) nd)
    · cases o' with
      | some S => cases hz
      | none =>
        refine w_callL gb (hr.mono h1) (by simpa [noOw] using ho) (wa_cons (w_v 0 rfl (wa_cons (w_v 2 rfl (wa_cons (w_v 4 rfl (wa_nil ⟨b, fi, mo, rfl, hb, sp, fun S hS => ?_⟩))))))) 
        refine tail S hS _ _ rfl ?_
        intro S hS
        exact ⟨some S, _, rfl, fun _ => ⟨S, rfl⟩, hS, rfl⟩
    · cases o' with
      | none => cases hz
      | some S0 =>
        refine w_callL gl (hr.mono h2) (by simpa [noOw] using ho) (wa_cons (w_v 0 rfl (wa_cons (w_v 1 rfl (wa_nil ⟨b, S0, rfl, hb, sp, fun S hS => ?_⟩)))))
        refine tail S hS _ _ rfl ?_
        intro S hS
        exact ⟨some S, _, rfl, fun _ => ⟨S, rfl⟩, hS, rfl⟩
  · rintro G ⟨o', o5, ho, hs, ii, rfl⟩
    obtain ⟨S, rfl⟩ := hs r1
    obtain ⟨p1, p2⟩ := fin S ii
    have no : noOw [SD.val (bD b), .val (oD (some S)), .val (pr (fr fi)), .val (.int run), .val (pr (fr mo)), o5] = true := by simpa [noOw] using ho
    refine wss_cons (ws_set 1 (w_callL gc (hr.mono h3) no (wa_cons (w_v 1 rfl (wa_cons (w_int (wa_cons (w_call gs (hr.mono h4) (wa_cons (w_v 4 rfl (wa_cons (w_ix (w_v 0 rfl (w_int ⟨_, _, pr (fr b.sh), .inl rfl, rfl, rfl, wa_nil ⟨_, _, rfl, bm.mono (by decide), bs.mono (by decide), rfl, wa_cons (w_int ?_)⟩⟩))))))))))))) nd)
    rw [sub_fr]
    refine wa_nil ⟨S, 0, _, 1, rfl, p1, fun S1 hS1 => ?_⟩
    obtain ⟨q1, q2⟩ := p2 S1 hS1
    have no : noOw [SD.val (bD b), .val (shD S1), .val (pr (fr fi)), .val (.int run), .val (pr (fr mo)), o5] = true := by simpa [noOw] using ho
    refine wss_one (ws_ret (w_if (wt_neNil hu (w_ix (w_v 1 rfl (w_int ⟨_, _, .lst (prs S1.ps), .inl rfl, rfl, rfl, S1.ps, rfl, fun hz => ?_, fun hz => ?_⟩))))))
    · have ne : S1.ps ≠ [] := fun e => by rw [e] at hz; cases hz
      obtain ⟨c1, c2⟩ := q2 ne
      refine w_callL gc (hr.mono h3) no (wa_cons (w_v 1 rfl (wa_cons (w_int (wa_cons (w_call ga (hr.mono h4) (wa_cons (w_v 4 rfl (wa_cons (w_ix (w_v 0 rfl (w_int ⟨_, _, pr (fr b.sh), .inl rfl, rfl, rfl, wa_nil ⟨_, _, rfl, bm.mono (by decide), bs.mono (by decide), rfl, wa_cons (w_neg (w_int ⟨_, rfl, ?_⟩))⟩⟩))))))))))))
      rw [add_fr]
      exact wa_nil ⟨S1, 0, _, -1, rfl, c1, c2⟩
    · have e : S1.ps = [] := by
        rw [← isEmpty_iff']
        cases q : S1.ps.isEmpty
        · rw [q] at hz; cases hz
        · rfl
      exact w_v 1 rfl (q1 e)
end
end FL
end
section
set_option Elab.async false
set_option linter.all false
set_option maxRecDepth 100000
set_option pp.maxSteps 400
/-! Tables of sets with up to 300 elements. -/
namespace FS
open PySem PySem.Spec PyProof.Rows L2
/-- the masks up to 511 -/
def MO (m : Nat) : Prop := MaskOk m ∨ m = 511
def orb (m : Nat) : Nat → Nat → List Nat
  | 0, _ => []
  | n + 1, i => i :: orb m n ((i * 5 + 1) % (m + 1))
theorem lcg_shift (m i : Nat) : ∀ k, lcgI m ((i * 5 + 1) % (m + 1)) k = lcgI m i (k + 1)
  | 0 => rfl
  | k + 1 => by
    show (lcgI m ((i * 5 + 1) % (m + 1)) k * 5 + 1) % (m + 1) = (lcgI m i (k + 1) * 5 + 1) % (m + 1)
    rw [lcg_shift m i k]
theorem orb_mem {m x : Nat} : ∀ {n i : Nat}, x ∈ orb m n i → ∃ k, k < n ∧ lcgI m i k = x
  | 0, _, h => by cases h
  | n + 1, i, h => by
    rcases List.mem_cons.mp h with rfl | h
    · exact ⟨0, Nat.succ_pos _, rfl⟩
    · obtain ⟨k, hk, e⟩ := orb_mem h
      exact ⟨k + 1, Nat.succ_lt_succ hk, by rw [← lcg_shift]; exact e⟩
theorem orb511 : ((List.range 512).all fun j => (orb 511 512 0).contains j) = true := by decide +kernel
theorem back511 : lcgN 511 512 = 0 := by decide +kernel
theorem rnd511 : ∀ k, lcgN 511 (512 + k) = lcgN 511 k
  | 0 => back511
  | k + 1 => by
    show (lcgN 511 (512 + k) * 5 + 1) % 512 = (lcgN 511 k * 5 + 1) % 512
    rw [rnd511 k]
theorem hit511 {j : Nat} (h : j ≤ 511) : ∃ b, b ≤ 511 ∧ lcgN 511 b = j := by
  have q := List.all_eq_true.mp orb511 j (List.mem_range.mpr (by omega))
  obtain ⟨k, hk, e⟩ := orb_mem (List.contains_iff_mem.mp q)
  exact ⟨k, by omega, by rw [← e, show lcgI 511 0 k = lcgI 511 (lcgN 511 0) k from rfl, lcgN_add, Nat.zero_add]⟩
theorem meets {m : Nat} (hm : MO m) {i j : Nat} (hix : i ≤ m) (hj : j ≤ m) : ∃ k, k ≤ m ∧ lcgI m i k = j := by
  rcases hm with hm | rfl
  · exact lcgI_all hm hix hj
  · obtain ⟨a, a1, rfl⟩ := hit511 hix
    obtain ⟨b, u1, rfl⟩ := hit511 hj
    by_cases c : a ≤ b
    · exact ⟨b - a, by omega, by rw [lcgN_add, Nat.add_sub_cancel' c]⟩
    · exact ⟨512 + b - a, by omega, by rw [lcgN_add, show a + (512 + b - a) = 512 + b by omega, rnd511]⟩
theorem off_le (m : Nat) : ∀ (n i b : Nat), i ≤ m → off m i b n ≤ 10 * n
  | 0, _, _, _ => Nat.zero_le _
  | n + 1, i, b, hix => by
    have r := runEnd_bd hix
    have := off_le m n _ (SetTable.leap m i b).2 (leap_le m i b)
    show (SetTable.runEnd m i - i + 1) + off m (SetTable.leap m i b).1 (SetTable.leap m i b).2 n ≤ _
    omega
theorem way_in {m : Nat} {h : Int} {k : Nat} : way m h k ≤ m := by
  have hix : SetTable.bits h % (m + 1) ≤ m := Nat.le_of_lt_succ (Nat.mod_lt _ (Nat.succ_pos _))
  have r := runEnd_bd hix
  have q := nth_in (m := m) k (runAt m (SetTable.bits h % (m + 1)) (SetTable.bits h)) (show SetTable.bits h % (m + 1) + (SetTable.runEnd m (SetTable.bits h % (m + 1)) - SetTable.bits h % (m + 1)) ≤ m by omega)
  exact Nat.le_trans (Nat.le_add_right _ _) q
/-- the first place of the way that is not taken -/
theorem firstFree {m : Nat} (hm : MO m) (h : Int) {occ : Nat → Prop} (hf : ∃ j, j ≤ m ∧ ¬ occ j) :
    ∃ K n, n ≤ m + 12 ∧ K ≤ off m (SetTable.bits h % (m + 1)) (SetTable.bits h) n ∧ ¬ occ (way m h K) ∧ ∀ k, k < K → occ (way m h k) := by
  obtain ⟨j, hj, hn⟩ := hf
  obtain ⟨k, hk, e⟩ := meets hm (runI_le m (SetTable.bits h) 12) hj
  have ew : way m h (off m (SetTable.bits h % (m + 1)) (SetTable.bits h) (12 + k)) = j := by
    show (nth m (runAt m (SetTable.bits h % (m + 1)) (SetTable.bits h)) _).j = j
    rw [nth_off, itL_run, ← e, ← runI_tail (bits_lt h)]
    rfl
  obtain ⟨K, k1, k2, k3⟩ := st_least (p := fun k => ¬ occ (way m h k)) _ (show ¬ occ (way m h (off m (SetTable.bits h % (m + 1)) (SetTable.bits h) (12 + k))) by rw [ew]; exact hn)
  exact ⟨K, 12 + k, by omega, k1, k2, fun c hc => Classical.byContradiction fun z => k3 c hc z⟩
theorem firstFree10 {m : Nat} (hm : MO m) (h : Int) {occ : Nat → Prop} (hf : ∃ j, j ≤ m ∧ ¬ occ j) : ∃ K, K < 10 * SetTable.turns m ∧ ¬ occ (way m h K) ∧ ∀ k, k < K → occ (way m h k) := by
  obtain ⟨K, n, h1, h2, h3, h4⟩ := firstFree hm h hf
  have := off_le m n (SetTable.bits h % (m + 1)) (SetTable.bits h) (Nat.le_of_lt_succ (Nat.mod_lt _ (Nat.succ_pos _)))
  exact ⟨K, by unfold SetTable.turns; omega, h3, h4⟩
/-- each hash has its place, and all before it on its way are taken -/
structure Tb (t : SetTable) (hs : List Int) : Prop where
  ris : Ris t.place.toList
  dm : t.dummies = #[]
  sz : t.place.size = hs.length
  mo : MO t.mask
  bnd : ∀ x ∈ t.place.toList, x ≤ t.mask
  at_ : ∀ (i : Nat) (h : Int), hs[i]? = some h → ∃ k, t.place.toList[i]? = some (way t.mask h k) ∧ ∀ c, c < k → way t.mask h c ∈ t.place.toList
theorem Tb.len {t : SetTable} {hs : List Int} (T : Tb t hs) : t.place.toList.length = hs.length := by rw [Array.length_toList, T.sz]
theorem Tb.free {t : SetTable} {hs : List Int} (T : Tb t hs) (hl : hs.length ≤ t.mask) (h : Int) : ∃ K, K < 10 * SetTable.turns t.mask ∧ way t.mask h K ∉ t.place.toList ∧ ∀ k, k < K → way t.mask h k ∈ t.place.toList := by
  obtain ⟨j, j1, j2⟩ := st_missing t.place.toList (t.mask + 1) (by rw [T.len]; omega)
  exact firstFree10 T.mo h (occ := fun x => x ∈ t.place.toList) ⟨j, by omega, j2⟩
theorem Tb.pre {t : SetTable} {hs : List Int} (T : Tb t hs) {h : Int} {K i : Nat} (hK : way t.mask h K ∉ t.place.toList) (hix : hs[i]? = some h) : ∃ k, k < K ∧ t.place.toList[i]? = some (way t.mask h k) := by
  obtain ⟨k, e, hb⟩ := T.at_ i h hix
  refine ⟨k, ?_, e⟩
  by_cases c : K < k
  · exact absurd (hb K c) hK
  · by_cases d : K = k
    · rw [d] at hK; exact absurd (List.mem_of_getElem? e) hK
    · omega
theorem Tb.put {t : SetTable} {hs : List Int} (T : Tb t hs) {h : Int} {K j p : Nat} (ej : way t.mask h K = j) (ep : SetTable.below t.place j = p) (hK : j ∉ t.place.toList) (hb : ∀ k, k < K → way t.mask h k ∈ t.place.toList) :
    (t.put j).2 = p ∧ p ≤ hs.length ∧ Tb (t.put j).1 (hs.take p ++ h :: hs.drop p) ∧ (t.put j).1.mask = t.mask ∧ (t.put j).1.led = t.led ∧ (t.put j).1.plain = t.plain ∧ (t.put j).1.fill = hs.length + 1 := by
  have pl : p ≤ t.place.toList.length := by rw [← ep, Array.length_toList]; exact (below_cut T.ris j).1
  have ph : p ≤ hs.length := by rw [← T.len]; exact pl
  have ez : (t.put j).1.place.toList = t.place.toList.take p ++ j :: t.place.toList.drop p := by rw [put_place, ep]
  have es : (t.put j).1.place.size = hs.length + 1 := by rw [← Array.length_toList, ez, len_ins _ pl, T.len]
  have nw : t.place[SetTable.below t.place j]? ≠ some j := fun e => hK (List.mem_of_getElem? (by rw [Array.getElem?_toList]; exact e))
  refine ⟨ep, ph, ⟨ris_insert T.ris nw, put_dm T.dm j, by rw [len_ins _ ph]; exact es, T.mo, fun x hx => ?_, fun i h' hix => ?_⟩, rfl, rfl, rfl, ?_⟩
  · rw [ez] at hx
    rcases mem_ins.mp hx with rfl | hx
    · rw [← ej]; exact way_in
    · exact T.bnd x hx
  · show ∃ k, (t.put j).1.place.toList[i]? = some (way t.mask h' k) ∧ ∀ c, c < k → way t.mask h' c ∈ (t.put j).1.place.toList
    rw [ez, tins_get _ pl]
    rw [tins_get _ ph] at hix
    split at hix
    · rename_i c
      obtain ⟨k, e, z⟩ := T.at_ i h' hix
      exact ⟨k, by rw [if_pos c]; exact e, fun c hc => mem_ins.mpr (.inr (z c hc))⟩
    · rename_i c
      rw [if_neg c]
      split at hix
      · rename_i c2
        cases hix
        exact ⟨K, by rw [if_pos c2, ej], fun c hc => mem_ins.mpr (.inr (hb c hc))⟩
      · rename_i c2
        obtain ⟨k, e, z⟩ := T.at_ (i - 1) h' hix
        exact ⟨k, by rw [if_neg c2]; exact e, fun c hc => mem_ins.mpr (.inr (z c hc))⟩
  · show (t.put j).1.place.size + (t.put j).1.dummies.size = _
    rw [es, put_dm T.dm j]
    rfl
/-! ### laid anew -/
theorem own_step {m : Nat} (hm : MO m) {done : List Int} {owner : Array (Option Nat)} (W : Own m done owner) (hl : done.length ≤ m) (h : Int) : ∃ j, SetTable.layClean.free m owner (SetTable.turns m) (SetTable.bits h % (m + 1)) (SetTable.bits h) = some j ∧ Own m (done ++ [h]) (owner.setIfInBounds j (some done.length)) := by
  obtain ⟨ps, hps, hin⟩ := W.ps
  obtain ⟨j0, j1, j2⟩ := st_missing ps (m + 1) (by omega)
  have hf : ∃ j, j ≤ m ∧ ¬ oAt owner j ≠ none := ⟨j0, by omega, fun z => j2 (hin j0 (by omega) z)⟩
  obtain ⟨K, n, n1, n2, n3, n4⟩ := firstFree hm h hf
  have n3 : oAt owner (way m h K) = none := Classical.byContradiction n3
  have hw : way m h K ≤ m := way_in
  have slf := oAt_set_self (some done.length) (show way m h K < owner.size by rw [W.sz]; omega)
  refine ⟨way m h K, free_spec m owner (SetTable.turns m) n _ _ K (by unfold SetTable.turns; omega) n2 (fun k hk => ?_) ?_, ?_⟩
  · cases z : oAt owner (way m h k) with
    | none => exact absurd z (n4 k hk)
    | some _ => rfl
  · show (oAt owner (way m h K)).isNone = true
    rw [n3]
    rfl
  have up : ∀ {i : Nat}, oAt owner i ≠ none → oAt (owner.setIfInBounds (way m h K) (some done.length)) i ≠ none := fun {i} hix => by
    by_cases c : i = way m h K
    · rw [c, slf]; exact Option.some_ne_none _
    · rw [oAt_set_ne _ c]; exact hix
  have ld : (done ++ [h]).length = done.length + 1 := by simp
  refine ⟨by rw [Array.size_setIfInBounds, W.sz], fun i k hix e => ?_, fun k hk => ?_, way m h K :: ps, by rw [ld, List.length_cons, hps], fun i hix e => ?_⟩
  · by_cases c : i = way m h K
    · rw [c, slf] at e
      cases e
      exact ⟨h, K, by simp, c.symm, fun k' hk' => up (n4 k' hk')⟩
    · rw [oAt_set_ne _ c] at e
      obtain ⟨h', K', a1, a2, a3⟩ := W.at_ i k hix e
      have := (List.getElem?_eq_some_iff.mp a1).1
      exact ⟨h', K', by rw [List.getElem?_append_left this]; exact a1, a2, fun k' hk' => up (a3 k' hk')⟩
  · rw [ld] at hk
    by_cases c : k = done.length
    · subst c; exact ⟨_, hw, slf⟩
    · obtain ⟨i, hix, e⟩ := W.all k (by omega)
      exact ⟨i, hix, by rw [oAt_set_ne _ fun z => by rw [z, n3] at e; cases e]; exact e⟩
  · by_cases c : i = way m h K
    · rw [c]; exact List.mem_cons_self
    · rw [oAt_set_ne _ c] at e; exact List.mem_cons_of_mem _ (hin i hix e)
theorem own_fold {m : Nat} (hm : MO m) : ∀ (todo done : List Int) (owner : Array (Option Nat)), Own m done owner → done.length + todo.length ≤ m → ∃ o2 n2, todo.foldl (stepF m) (some (owner, done.length)) = some (o2, n2) ∧ Own m (done ++ todo) o2
  | [], done, owner, W, _ => ⟨owner, _, rfl, by rw [List.append_nil]; exact W⟩
  | h :: todo, done, owner, W, hl => by
    rw [List.length_cons] at hl
    obtain ⟨j, e, W2⟩ := own_step hm W (by omega) h
    have ld : (done ++ [h]).length = done.length + 1 := by simp
    obtain ⟨o2, n2, f, W3⟩ := own_fold hm todo (done ++ [h]) _ W2 (by omega)
    rw [ld] at f
    refine ⟨o2, n2, ?_, by rw [show done ++ h :: todo = done ++ [h] ++ todo by simp]; exact W3⟩
    rw [List.foldl_cons, stepF_some e]; exact f
theorem relay {t : SetTable} {hs : Array Int} {wanted M : Nat} (hw : SetTable.sizeAbove wanted - 1 = M) (hM : MO M) (hn : hs.size ≤ M) :
    ∃ t2 order, t.relaid hs wanted = some (t2, order) ∧ order.toList.Perm (List.range hs.size) ∧ Tb t2 (order.toList.map fun i => hs.getD i 0) ∧ t2.mask = M ∧ t2.led = t.led ∧ t2.plain = t.plain := by
  obtain ⟨owner, n2, f, W⟩ := own_fold hM hs.toList [] _ (Own.init M) (show 0 + hs.toList.length ≤ M by rw [Array.length_toList]; omega)
  rw [List.nil_append] at W
  have er : t.relaid hs wanted = some (tabOf t M owner, ((liveOf M owner).map (·.2)).toArray) := by
    rw [relaid_eq, hw, layClean_eq]
    rw [show hs.toList.foldl (stepF M) (some (Array.replicate (M + 1) none, 0)) = some (owner, n2) from f]
    rfl
  have rl := ris_live (fun j => owner.getD j none) (List.range (M + 1)) List.pairwise_lt_range
  have r1 : Ris ((liveOf M owner).map (·.1)) := rl.1
  have lenL : (liveOf M owner).length = hs.size := by
    obtain ⟨ps, p1, p2⟩ := W.ps
    have a := nat_nodup_len ((liveOf M owner).map (·.1)) ps (show List.Pairwise _ _ from List.Pairwise.imp (R := (· < ·)) (fun h => Nat.ne_of_lt h) (show List.Pairwise (· < ·) ((liveOf M owner).map (·.1)) from r1)) fun x hx => by
      obtain ⟨⟨y, k⟩, hqq, rfl⟩ := List.mem_map.mp hx
      obtain ⟨u1, u2⟩ := (mem_live W.sz).mp hqq
      exact p2 y u1 (by rw [u2]; exact Option.some_ne_none _)
    have lb := nat_nodup_len (List.range hs.size) ((liveOf M owner).map (·.2)) List.nodup_range fun k hk => by
      obtain ⟨j, u1, u2⟩ := W.all k (by rw [Array.length_toList]; exact List.mem_range.mp hk)
      exact List.mem_map.mpr ⟨(j, k), (mem_live W.sz).mpr ⟨u1, u2⟩, rfl⟩
    rw [List.length_map, p1] at a
    rw [List.length_map, List.length_range] at lb
    have zsz : hs.toList.length = hs.size := rfl
    omega
  refine ⟨_, _, er, perm_range _ _ (by show ((liveOf M owner).map (·.2)).length = _; rw [List.length_map, lenL]) fun k hk => ?_, ⟨r1, rfl, ?_, hM, fun x hx => ?_, fun i h hix => ?_⟩, rfl, rfl, rfl⟩
  · obtain ⟨j, u1, u2⟩ := W.all k (by rw [Array.length_toList]; exact hk)
    exact List.mem_map.mpr ⟨(j, k), (mem_live W.sz).mpr ⟨u1, u2⟩, rfl⟩
  · show (List.toArray ((liveOf M owner).map (·.1))).size = (((liveOf M owner).map (·.2)).map fun i => hs.getD i 0).length
    simp
  · have := List.mem_range.mp (rl.2 x hx)
    show x ≤ M
    omega
  · have hix : (((liveOf M owner).map (·.2)).map fun i => hs.getD i 0)[i]? = some h := hix
    show ∃ k, ((liveOf M owner).map (·.1))[i]? = some (way M h k) ∧ ∀ c, c < k → way M h c ∈ (liveOf M owner).map (·.1)
    rw [List.getElem?_map, List.getElem?_map] at hix
    rw [List.getElem?_map]
    cases hqq : (liveOf M owner)[i]? with
    | none => rw [hqq] at hix; cases hix
    | some q =>
      rw [hqq] at hix
      have hix : hs.getD q.2 0 = h := Option.some.inj hix
      obtain ⟨u1, u2⟩ := (mem_live W.sz).mp (show (q.1, q.2) ∈ liveOf M owner from List.mem_of_getElem? hqq)
      obtain ⟨h0, K, a1, a2, a3⟩ := W.at_ q.1 q.2 u1 u2
      have e0 : hs.getD q.2 0 = h0 := by rw [Array.getD_eq_getD_getElem?, ← Array.getElem?_toList, a1]; rfl
      rw [e0] at hix
      subst hix
      refine ⟨K, by show some q.1 = _; rw [a2], fun c hc => ?_⟩
      cases z : oAt owner (way M h0 c) with
      | none => exact absurd z (a3 c hc)
      | some k2 => exact List.mem_map.mpr ⟨(way M h0 c, k2), (mem_live W.sz).mpr ⟨way_in, z⟩, rfl⟩
end FS
end
section
set_option Elab.async false
set_option linter.all false
set_option maxRecDepth 100000
set_option pp.maxSteps 400
/-! Sets of tuples of ints, up to 300 elements. -/
namespace FS
open PySem PySem.Spec PyProof.Rows L2
abbrev Row := Addr × List Int
section
variable {P : Program} {w : World} {A : Around} {E : Value → Shared → Prop} {s : Shared}
/-- the set at a, its rws L -/
structure Big (P : Program) (w : World) (h : Heap) (a : Addr) (L : List Row) (es : Array (Int × Value)) (ep : Nat) (t : SetTable) : Prop where
  atO : ∃ o, h.get? a = some o ∧ o.ExactSet ∧ o.data = .set es ep t
  rws : es.toList = rowsOf P w L
  tab : Tb t (L.map fun p => thash P w p.2)
  nd : (L.map (·.2)).Nodup
  plain : t.plain = true
  led :
    (w.params.followText "set-order" = true ∨ t.led = true)
  rmm : L.length * 5 < t.mask * 3
  few : L.length ≤ 300
def Tups (P : Program) (w : World) (h : Heap) (L : List Row) : Prop := ∀ p ∈ L, IsT P w h p.2 p.1
variable {a : Addr} {L : List Row} {es : Array (Int × Value)} {ep : Nat} {t : SetTable}
theorem rows_size (h : es.toList = rowsOf P w L) : es.size = L.length := by
  simpa [rowsOf] using congrArg List.length h
theorem Big.size (R : Big P w s.heap a L es ep t) : es.size = L.length := rows_size R.rws
theorem tb_fits {hs : List Int} (T : Tb t hs) (h : hs.length ≤ t.mask) (e : es.size = hs.length) : t.fits es.size = true := by
  have z := T.sz
  have d := T.dm
  unfold SetTable.fits
  unfold SetTable.fill
  rw [d]
  simp
  omega
theorem Big.fits (R : Big P w s.heap a L es ep t) : t.fits es.size = true := by
  have := R.rmm
  exact tb_fits R.tab (by rw [List.length_map]; omega) (by rw [List.length_map]; exact R.size)
theorem Big.row (R : Big P w s.heap a L es ep t) {i : Nat} {p : Row} (h : L[i]? = some p) : es[i]? = some (thash P w p.2, Value.ref p.1) := by
  rw [← Array.getElem?_toList]
  simp [R.rws, rowsOf, h]
theorem mo_odd {m : Nat} (h : MO m) : m % 2 = 1 := by
  rcases h with h | rfl
  · exact mask_odd h
  · rfl
theorem Big.gw (R : Big P w s.heap a L es ep t) : ¬ t.gaveWay = true := by
  have := mo_odd R.tab.mo
  unfold SetTable.gaveWay
  simp [this]
theorem mo_le {m : Nat} (h : MO m) : m ≤ 511 := by
  rcases h with h | rfl
  · rcases h with rfl | rfl | rfl <;> decide
  · exact Nat.le_refl _
/-- on the way -/
abbrev pw (m : Nat) (h : Int) (c : Nat) : SetTable.Probe := nth m (runAt m (SetTable.bits h % (m + 1)) (SetTable.bits h)) c
theorem pw_dummy (m : Nat) (h : Int) (c : Nat) : (pw m h c).dummy = none := by
  have key : ∀ (n : Nat) (p : SetTable.Probe), p.dummy = none → (nth m p n).dummy = none := fun n => by
    induction n with
    | zero => exact fun p h => h
    | succ n ih => exact fun p h => ih _ (by unfold adv; split <;> exact h)
  exact key c _ rfl
theorem find {x : Addr} {k : List Int} (R : Big P w s.heap a L es ep t) (T : Tups P w s.heap L) (hxx : IsT P w s.heap k x) (hu : A.units < cLine) {K : Nat} (k1 : K < 10 * SetTable.turns t.mask) (k2 : way t.mask (thash P w k) K ∉ t.place.toList) (k3 : ∀ c, c < K → way t.mask (thash P w k) c ∈ t.place.toList) {Q : SetFound → Shared → Prop}
    (yes : k ∈ L.map (·.2) → Q (.there none) s) (no : k ∉ L.map (·.2) → Q (.free (way t.mask (thash P w k) K) false) s) :
    ∀ (f c : Nat) (stand : Option SetTable.Probe), stand.getD (t.probeStart (thash P w k)) = pw t.mask (thash P w k) c → c ≤ K → K - c < f → (∀ (i : Nat) p, L[i]? = some p → p.2 = k → ∃ c', c ≤ c' ∧ c' < K ∧ t.place.toList[i]? = some (way t.mask (thash P w k) c')) → wpAny (model P w) A (setSearchFrom a (.ref x) (thash P w k) true f stand) Q E s := by
  intro f
  induction f with
  | zero => exact fun c _ _ _ hful _ => absurd hful (Nat.not_lt_zero _)
  | succ f ih =>
    intro c stand hst hc hful hre
    obtain ⟨o, hoo, hexx, hd⟩ := R.atO
    rw [setSearchFrom_succ]
    refine wpAny_bind (wpAny_setState_of hoo hd R.fits ?_); dsimp only
    refine wp_if_neg R.gw ?_
    try (refine wpAny_bind ?_; refine wpAny_pure ?_)
    have shift : ∀ q, nth t.mask (pw t.mask (thash P w k) c) q = pw t.mask (thash P w k) (c + q) := fun q => (nth_add t.mask c _ q).symm
    have sj : ∀ q, (nth t.mask (pw t.mask (thash P w k) c) q).j = way t.mask (thash P w k) (c + q) := fun q => congrArg SetTable.Probe.j (shift q)
    have hash : ∀ (i : Nat) p, L[i]? = some p → (es[i]?.map (·.1)).getD 0 = thash P w p.2 := fun i p hpp => by rw [R.row hpp]; rfl
    have eK : c + (K - c) = K := by omega
    rcases go_spec t R.tab.ris R.tab.dm (fun i => (es[i]?.map (·.1)).getD 0) (thash P w k) (10 * SetTable.turns t.mask) (K - c) _ (pw_dummy t.mask (thash P w k) c) (by omega) (fun q hq => by rw [sj]; exact k3 _ (by omega)) (by rw [sj, eK]; exact k2) with ⟨q, i, hq, hi, hh, hno, hpr⟩ | ⟨hno, hpr⟩
    · rw [sj] at hi
      rw [hst, show t.probe _ _ _ = _ from hpr, sj, shift]; dsimp only
      have hil : i < L.length := by
        have h1 := (List.getElem?_eq_some_iff.mp hi).1
        rw [R.tab.len, List.length_map] at h1
        exact h1
      obtain ⟨p, hpp⟩ : ∃ p, L[i]? = some p := ⟨_, List.getElem?_eq_getElem hil⟩
      have hm : p ∈ L := List.mem_of_getElem? hpp
      have rest : wpAny (model P w) A (searchRest a (.ref x) (thash P w k) true f es t (way t.mask (thash P w k) (c + q)) i (pw t.mask (thash P w k) (c + (q + 1)))) Q E s := by
        unfold searchRest
        rw [R.row hpp]; dsimp only
        refine wpAny_bind (wpAny_holding (wpAny_eqBool_tuple hu (T p hm) hxx ?_))
        refine wpAny_bind (wpAny_setState_of hoo hd R.fits ?_); dsimp only
        by_cases hkk : p.2 = k
        · exact wp_if_pos (by simp [hkk]) (wpAny_pure (yes (List.mem_map.mpr ⟨p, hm, hkk⟩)))
        · apply wp_if_neg (by simp [hkk])
          try (refine wpAny_bind ?_; refine wpAny_pure ?_)
          have sl : t.slot (way t.mask (thash P w k) (c + q)) = .live i := slot_live R.tab.ris hi
          rw [sameMem]; dsimp only
          simp only [if_true, sl, R.row hpp]
          refine wpAny_bind (wpAny_isSame_ref_self ?_)
          refine wpAny_bind ?_
          refine wpAny_pure ?_
          simp only [if_true]
          refine wp_if_neg (by simp [hkk]) (ih (c + (q + 1)) _ rfl (by omega) (by omega) fun i0 p0 h0 e0 => ?_)
          obtain ⟨c', a1, a2, a3⟩ := hre i0 p0 h0 e0
          refine ⟨c', Classical.byContradiction fun z => ?_, a2, a3⟩
          by_cases y : c' = c + q
          · rw [y] at a3
            have sL0 := slot_live R.tab.ris a3
            rw [sl] at sL0; injection sL0 with sL0
            rw [← sL0, hpp] at h0
            exact hkk ((congrArg Prod.snd (Option.some.inj h0)).trans e0)
          · refine hno (c' - c) i0 (by omega) (by rw [sj, show c + (c' - c) = c' by omega]; exact a3) ?_
            exact (hash i0 p0 h0).trans (congrArg (thash P w) e0)
      by_cases hled : t.led = true
      · refine wp_if_neg (by simp [hled]) ?_
        try (refine wpAny_bind ?_; refine wpAny_pure ?_)
        exact rest
      · refine wp_if_pos (by simp [hled]) (wpAny_bind (seen_tup hxx (fun y hy => ?_) ?_))
        · obtain ⟨e, he, rfl⟩ := List.mem_map.mp hy
          have he2 : e ∈ es.toList := by
            have : e ∈ es ∧ e.1 = thash P w k := by simpa using he
            simpa using this.1
          rw [R.rws] at he2
          obtain ⟨p2, hp2, rfl⟩ := List.mem_map.mp he2
          exact ⟨p2.2, p2.1, rfl, T p2 hp2⟩
        · apply wp_if_neg (by decide)
          try (refine wpAny_bind ?_; refine wpAny_pure ?_)
          exact rest
    · rw [hst, show t.probe _ _ _ = _ from hpr, sj, eK]; dsimp only
      refine wpAny_pure (no fun hm => ?_)
      obtain ⟨p0, h0, e0⟩ := List.mem_map.mp hm
      obtain ⟨i0, hi0⟩ := List.getElem?_of_mem h0
      obtain ⟨c', a1, a2, a3⟩ := hre i0 p0 hi0 e0
      exact hno (c' - c) i0 (by omega) (by rw [sj, show c + (c' - c) = c' by omega]; exact a3) ((hash i0 p0 hi0).trans (congrArg (thash P w) e0))
theorem find0 {x : Addr} {k : List Int} (R : Big P w s.heap a L es ep t) (T : Tups P w s.heap L) (hxx : IsT P w s.heap k x) (hu : A.units < cLine) {Q : SetFound → Shared → Prop} (yes : k ∈ L.map (·.2) → Q (.there none) s)
    (no : ∀ K, k ∉ L.map (·.2) → way t.mask (thash P w k) K ∉ t.place.toList → (∀ c, c < K → way t.mask (thash P w k) c ∈ t.place.toList) → Q (.free (way t.mask (thash P w k) K) false) s) : wpAny (model P w) A (setSearch a (.ref x) (thash P w k) true) Q E s := by
  have rm := R.rmm
  obtain ⟨K, k1, k2, k3⟩ := R.tab.free (by rw [List.length_map]; omega) (thash P w k)
  have := mo_le R.tab.mo
  unfold setSearch
  refine find R T hxx hu k1 k2 k3 yes (fun h => no K h k2 k3) 100000 0 none rfl (Nat.zero_le _) (by unfold SetTable.turns at k1; omega) fun i p hpp hkk => ?_
  obtain ⟨c, hc, e⟩ := R.tab.pre k2 (show (L.map fun p => thash P w p.2)[i]? = some (thash P w k) by rw [List.getElem?_map, hpp, ← hkk]; rfl)
  exact ⟨c, Nat.zero_le _, hc, e⟩
end
end FS
end
section
set_option Elab.async false
set_option linter.all false
set_option maxRecDepth 100000
set_option pp.maxSteps 400
/-! Putting in; set(list). -/
namespace FS
open PySem PySem.Spec PyProof.Rows L2
theorem z5 : SetTable.sizeAbove (SetTable.grown 5) = 32 := size_20
theorem z19 : SetTable.sizeAbove (SetTable.grown 19) = 128 := size_76
theorem z77 : SetTable.sizeAbove (SetTable.grown 77) = 512 := by decide +kernel
section
variable {P : Program} {w : World} {A : Around} {E : Value → Shared → Prop} {s : Shared} {a : Addr} {L : List Row} {es : Array (Int × Value)} {ep : Nat} {t : SetTable}
theorem lay {o : Obj} (hoo : s.heap.get? a = some o) (hexx : o.ExactSet) (hd : o.data = .set es ep t) (hr : es.toList = rowsOf P w L) (T : Tb t (L.map fun p => thash P w p.2)) (hled : L.length ≤ t.mask) (nd : (L.map (·.2)).Nodup) (pl : t.plain = true) (ld : w.params.followText "set-order" = true ∨ t.led = true) (few : L.length ≤ 300) {wanted M : Nat}
    (hw : SetTable.sizeAbove wanted = M + 1) (hM : MO M) (hn : L.length * 5 < M * 3) {Q : Unit → Shared → Prop} (hQ : ∀ h' L' es' ep' t', Heap.SameBut a s.heap h' → Big P w h' a L' es' ep' t' → L'.Perm L → Q () { s with heap := h' }) : wpAny (model P w) A (setRelay a wanted) Q E s := by
  have zs := rows_size hr
  have fits := tb_fits T (by rw [List.length_map]; exact hled) (by rw [List.length_map]; exact zs)
  obtain ⟨t2, order, er, hpp, T2, em, el, epl⟩ := relay (t := t) (hs := es.map (·.1)) (wanted := wanted) (M := M) (by omega) hM (by rw [Array.size_map, zs]; omega)
  rw [Array.size_map, zs] at hpp
  obtain ⟨L2, r1, r2, r3⟩ := order_rows L es order hr hpp
  rw [← r3] at T2
  have z2 : (order.filterMap (es[·]?)).size = es.size := by rw [rows_size r1, r2.length_eq, zs]
  have := mo_le hM
  rw [setRelay_eq]
  refine wpAny_bind (wpAny_setState_of hoo hd fits ?_); dsimp only
  apply wp_if_neg (by rw [sizeLine_eq]; omega)
  try (refine wpAny_bind ?_; refine wpAny_pure ?_)
  rw [er]; dsimp only
  refine wpAny_bind (wp_if_neg (by rw [z2]; simp) ?_)
  try (refine wpAny_bind ?_; refine wpAny_pure ?_)
  refine wpAny_pure ?_; dsimp only
  refine wpAny_storeSet_of hoo hd ?_ (by rw [z2, zs, sizeLine_eq]; omega)
  exact hQ _ L2 _ (ep + 1) t2 (Heap.SameBut.update ..) ⟨⟨_, store_at hoo hd, hexx, rfl⟩, r1, T2, (r2.map (·.2)).nodup_iff.mpr nd, by rw [epl]; exact pl, by rw [el]; exact ld, by rw [r2.length_eq, em]; exact hn, by rw [r2.length_eq]; exact few⟩ r2
theorem tups_same {h h' : Heap} {o : Obj} (T : Tups P w h L) (hoo : h.get? a = some o) (hd : o.data = .set es ep t) (hs : Heap.SameBut a h h') : Tups P w h' L := fun p hpp => isT_same (T p hpp) hoo hd hs
theorem put {x : Addr} {k : List Int} (R : Big P w s.heap a L es ep t) (T : Tups P w s.heap L) (hxx : IsT P w s.heap k x) (hu : A.units < cLine) (few : L.length + 1 ≤ 300) {Q : Bool → Shared → Prop}
    (hQ : ∀ b h' L' es' ep' t', Heap.SameBut a s.heap h' → Big P w h' a L' es' ep' t' → (k ∈ L.map (·.2) → L' = L) → (k ∉ L.map (·.2) → L'.Perm ((x, k) :: L)) → Q b { s with heap := h' }) : wpAny (model P w) A (setAddHashed a (.ref x) (thash P w k)) Q E s := by
  obtain ⟨o, hoo, hexx, hd⟩ := R.atO
  have zs := R.size
  have rm := R.rmm
  unfold setAddHashed
  refine wpAny_holding ?_
  rw [show 100000 = 99999 + 1 from rfl]
  rw [setAddHashedIn_succ]
  refine wpAny_bind (wpAny_setState_of hoo hd R.fits ?_); dsimp only
  apply wp_if_neg (by simp [byScan, Value.scannable])
  try (refine wpAny_bind ?_; refine wpAny_pure ?_)
  refine wpAny_bind (find0 R T hxx hu (fun hm => ?_) fun K hm hK hb => ?_)
  · exact wpAny_pure (hQ false s.heap L es ep t (Heap.SameBut.refl a s.heap) R (fun _ => rfl) fun z => absurd hm z)
  dsimp only
  refine wpAny_bind (wpAny_setState_of hoo hd R.fits ?_); dsimp only
  obtain ⟨p, ep2⟩ : ∃ p, SetTable.below t.place (way t.mask (thash P w k) K) = p := ⟨_, rfl⟩
  obtain ⟨q1, q2, q3, q4, q5, q6, q7⟩ := R.tab.put rfl ep2 hK hb
  have pl1 : (t.put (way t.mask (thash P w k) K)).1.plain = true := by rw [q6]; exact R.plain
  obtain ⟨t1, p'⟩ : ∃ pt, t.put (way t.mask (thash P w k) K) = pt := ⟨_, rfl⟩
  generalize t.put (way t.mask (thash P w k) K) = pt at q1 q3 q4 q5 q6 q7 pl1 ⊢
  obtain ⟨t1, p'⟩ := pt
  dsimp only at q1 q3 q4 q5 q6 q7 pl1 ⊢
  subst q1
  first
    | (refine wpAny_bind ?_; refine wp_if_pos pl1 ?_; refine hashBy_tup hxx ?_)
    | refine wp_if_pos pl1 (wpAny_bind (hashBy_tup hxx ?_))
  simp only [if_true]
  have er : (SetTable.insertAt es p' (thash P w k, Value.ref x)).toList = rowsOf P w (L.take p' ++ (x, k) :: L.drop p') := by rw [SetTable.toList_insertAt, rows_put, R.rws]
  have pm := put_perm L p' (x, k)
  rw [show (L.map fun p => thash P w p.2).take p' ++ thash P w k :: (L.map fun p => thash P w p.2).drop p' = (L.take p' ++ (x, k) :: L.drop p').map fun p => thash P w p.2 by rw [List.map_append, List.map_cons, List.map_take, List.map_drop]] at q3
  rw [List.length_map] at q7
  have l1 : (L.take p' ++ (x, k) :: L.drop p').length = L.length + 1 := pm.length_eq
  have nd1 : ((L.take p' ++ (x, k) :: L.drop p').map (·.2)).Nodup := (pm.map (·.2)).nodup_iff.mpr (by rw [List.map_cons]; exact List.nodup_cons.mpr ⟨hm, R.nd⟩)
  have z1 := rows_size er
  generalize SetTable.insertAt es p' (thash P w k, Value.ref x) = es1 at er z1 ⊢
  generalize L.take p' ++ (x, k) :: L.drop p' = L1 at pm l1 q3 nd1 er z1
  refine wpAny_bind (wpAny_storeSet_of hoo hd ?_ (by rw [z1, l1, sizeLine_eq]; omega))
  have sbt : Heap.SameBut a s.heap (s.heap.update a (Obj.putSet es1 t1)) := Heap.SameBut.update ..
  have hoo1 := store_at (es' := es1) (t' := t1) hoo hd
  generalize s.heap.update a (Obj.putSet es1 t1) = h1 at sbt hoo1 ⊢
  have ledd : w.params.followText "set-order" = true ∨ t1.led = true := by rw [q5]; exact R.led
  by_cases hful : t1.tooFull = true
  · first
      | (refine wpAny_bind ?_; refine wp_if_pos (by simp [hful]) ?_)
      | (refine wp_if_pos (by simp [hful]) ?_; refine wpAny_bind ?_)
    have full : t.mask * 3 ≤ (L.length + 1) * 5 := by
      have h := hful
      unfold SetTable.tooFull at h
      rw [q7, q4] at h
      simpa using h
    have go : ∀ M, SetTable.sizeAbove (SetTable.grown (L.length + 1)) = M + 1 → MO M → (L.length + 1) * 5 < M * 3 → L.length + 1 ≤ t.mask → wpAny (model P w) A (setRelay a (SetTable.grown (L.length + 1))) (fun _ s' => wpAny (model P w) A (pure true) Q E s') E { s with heap := h1 } := fun M g1 g2 g3 g4 =>
      lay (s := { s with heap := h1 }) hoo1 hexx rfl er q3 (by rw [l1, q4]; exact g4) nd1 pl1 ledd (by omega) g1 g2 (by rw [l1]; exact g3) fun h2 L2 es2 ep2 t2 sb2 R2 pm2 => wpAny_pure (hQ true h2 L2 es2 ep2 t2 (sbt.trans sb2) R2 (fun z => absurd z hm) fun _ => pm2.trans pm)
    rw [zs]
    rcases R.tab.mo with e | e
    · rcases e with e | e | e
      · have e4 : L.length = 4 := by rw [e] at full rm; omega
        exact go 31 (by rw [e4]; exact z5) (.inl (.inr (.inl rfl))) (by omega) (by omega)
      · have e4 : L.length = 18 := by rw [e] at full rm; omega
        exact go 127 (by rw [e4]; exact z19) (.inl (.inr (.inr rfl))) (by omega) (by omega)
      · have e4 : L.length = 76 := by rw [e] at full rm; omega
        exact go 511 (by rw [e4]; exact z77) (.inr rfl) (by omega) (by omega)
    · exfalso
      rw [e] at full
      omega
  · first
      | refine wp_if_neg (by simp [hful]) ?_
      | (refine wpAny_bind ?_; refine wp_if_neg (by simp [hful]) ?_; refine wpAny_pure ?_)
    refine wpAny_pure (hQ true h1 L1 es1 (ep + 1) t1 sbt ⟨⟨_, hoo1, hexx, rfl⟩, er, q3, nd1, pl1, ledd, ?_, by omega⟩ (fun z => absurd z hm) fun _ => pm)
    have h : ¬ _ := hful
    unfold SetTable.tooFull at h
    simp only [q7, decide_eq_true_eq] at h
    omega
/-- what came from the first i of ks -/
structure Came (ks : List Row) (i : Nat) (L : List Row) : Prop where
  sub : ∀ p ∈ L, p ∈ ks
  all : ∀ j p, j < i → ks[j]? = some p → p.2 ∈ L.map (·.2)
  len : L.length ≤ i
theorem Big.keep {h h' : Heap} (R : Big P w h a L es ep t) (ha : ∀ o, h.get? a = some o → h'.get? a = some o) : Big P w h' a L es ep t := by
  obtain ⟨o, hoo, r⟩ := R.atO
  exact ⟨⟨o, ha o hoo, r⟩, R.rws, R.tab, R.nd, R.plain, R.led, R.rmm, R.few⟩
theorem fresh {h : Heap} (hoo : h.get? a = some { cls := .type "set", dict := none, data := .set #[] 0 (.fresh 0 0 (!w.params.followText "set-order")) }) : Big P w h a [] #[] 0 (.fresh 0 0 (!w.params.followText "set-order")) :=
  ⟨⟨_, hoo, ⟨rfl, rfl, rfl⟩, rfl⟩, rfl, ⟨List.Pairwise.nil, rfl, rfl, .inl (.inl rfl), fun x hxx => (by cases hxx), fun i h hi => (by simp at hi)⟩, List.nodup_nil, rfl, by show _ ∨ (!w.params.followText "set-order") = true; cases w.params.followText "set-order" <;> simp, by show 0 * 5 < 7 * 3; decide, Nat.zero_le _⟩
end
end FS
end
section
set_option Elab.async false
set_option linter.all false
set_option maxRecDepth 100000
set_option pp.maxSteps 400
/-! set(list of tuples of ints), sorted(set of pairs). -/
namespace FS
open PySem PySem.Spec PyProof.Rows L2
section
variable {P : Program} {w : World} {A : Around} {E : Value → Shared → Prop} {s : Shared}
theorem loop {I : Addr} {fp wr : List Addr} {G : Array GenState → Array GenState → Prop} {n : Nat} {Pv : Nat → Value → Prop} {St : Nat → Shared → Prop} {R : Result → Shared → Prop} (W : WalksS P w A.in1 I fp wr G n Pv St) (S : Addr) (hSf : S ∉ fp) (ks : List Row) (hn : n = ks.length) (few : ks.length ≤ 300)
    (hv : ∀ i v, Pv i v → ∃ p, ks[i]? = some p ∧ v = .ref p.1) (h0 : Heap) (hkk : Tups P w h0 ks) (hS0 : h0.get? S = none) (hw0 : ∀ b ∈ wr, h0.get? b = none) (hu : A.in1.units < cLine) :
    ∀ (k i : Nat) (s : Shared), n - i = k → i ≤ n → St i s → (∀ b o, h0.get? b = some o → s.heap.get? b = some o) → (∃ L es ep t, Big P w s.heap S L es ep t ∧ Came ks i L) →
      (∀ s' L es ep t, Moved (S :: wr) G s s' → Big P w s'.heap S L es ep t → Came ks n L → (∀ b o, h0.get? b = some o → s'.heap.get? b = some o) → R (.ok (.ret .none)) s') → codeAny (model P w) A (.builtin "set.update.loop" ⟨[.ref S, .ref I], []⟩) R s := by
  have hSnw : S ∉ wr := fun h => hSf (W.sub _ h)
  have kept : ∀ {s s' : Shared}, Moved wr G s s' → (∀ b o, h0.get? b = some o → s.heap.get? b = some o) → ∀ b o, h0.get? b = some o → s'.heap.get? b = some o := fun hm hkp b o e => hm.heap b o (fun hb => by rw [hw0 b hb] at e; cases e) (hkp b o e)
  have tk : ∀ {h : Heap} {L : List Row} {i : Nat}, (∀ b o, h0.get? b = some o → h.get? b = some o) → Came ks i L → Tups P w h L := fun hkp g p hpp => isT_keep (hkk p (g.sub p hpp)) hkp
  have wide : ∀ b ∈ wr, b ∈ S :: wr := fun b hb => List.mem_cons_of_mem _ hb
  intro k
  induction k with
  | zero =>
    intro i s ek hi st hkp ⟨L, es, ep, t, B, g⟩ hR
    obtain rfl : i = n := by omega
    refine codeAny_builtin F.entry_set_update_loop ?_; rw [Around.under_plainId F.plain_set_update_loop _]
    show wpAny _ A.in1 (pyNext (.ref I) >>= _) _ _ s; refine wpAny_bind (W.done s _ _ st fun s' hm => ?_)
    show wpAny _ A.in1 (ret Value.none) _ _ s'; exact wpAny_pure (hR s' L es ep t (hm.mono wide) (B.keep fun o e => hm.heap S o hSnw e) g (kept hm hkp))
  | succ k ih =>
    intro i s ek hi st hkp ⟨L, es, ep, t, B, g⟩ hR
    refine codeAny_builtin F.entry_set_update_loop ?_; rw [Around.under_plainId F.plain_set_update_loop _]
    show wpAny _ A.in1 (pyNext (.ref I) >>= _) _ _ s; refine wpAny_bind (W.item i s _ _ (by omega) st fun v s' hP st' hm => ?_)
    obtain ⟨p, hpp, rfl⟩ := hv i v hP
    have hkp' := kept hm hkp
    show wpAny _ A.in1 (holding [.ref p.1] (setAdd S (.ref p.1)) >>= _) _ _ _
    refine wpAny_bind (wpAny_holding ?_); unfold setAdd
    have hxx : IsT P w s'.heap p.2 p.1 := isT_keep (hkk p (List.mem_of_getElem? hpp)) hkp'
    refine wpAny_holding (wpAny_bind (wpAny_pyHash_tuple hu hxx ?_))
    have gl := g.len
    refine put (s := { s' with toks := s'.toks + (p.2.length + 1) }) (B.keep fun o e => hm.heap S o hSnw e) (tk hkp' g) hxx hu (by omega) fun b h' L' es' ep' t' hsb B2 c1 c2 => ?_
    have g2 : Came ks (i + 1) L' := by
      by_cases c : p.2 ∈ L.map (·.2)
      · rw [c1 c]
        refine ⟨g.sub, fun j q hj hq => ?_, by omega⟩
        by_cases e : j = i
        · subst e; rw [hpp] at hq; cases hq; exact c
        · exact g.all j q (by omega) hq
      · have pm := c2 c
        refine ⟨fun q hq => ?_, fun j q hj hq => ?_, by rw [pm.length_eq, List.length_cons]; omega⟩
        · rcases List.mem_cons.mp (pm.mem_iff.mp hq) with rfl | hq
          · exact List.mem_of_getElem? hpp
          · exact g.sub q hq
        · rw [List.Perm.mem_iff (pm.map (·.2)), List.map_cons]
          by_cases e : j = i
          · subst e; rw [hpp] at hq; cases hq; exact List.mem_cons_self
          · exact List.mem_cons_of_mem _ (g.all j q (by omega) hq)
    have keep2 : ∀ b o, h0.get? b = some o → h'.get? b = some o := fun b o e => (hsb.2 b (fun z => by rw [z, hS0] at e; cases e)).trans (hkp' b o e)
    refine wpAny_pure ⟨plainId_quiet F.plain_set_update_loop _, ih (i + 1) _ (by omega) (by omega) (W.frame _ s' _ _ st' (Nat.le_add_right _ _) fun b hb o e => (hsb.2 b fun z => hSf (by rw [← z]; exact hb)).trans e) keep2 ⟨L', es', ep', t', B2, g2⟩ fun s2 L2 es2 ep2 t2 hm2 B3 g3 hkp3 => ?_⟩
    exact hR s2 L2 es2 ep2 t2 (Moved.trans W.gtrans ((hm.mono wide).then_heap (Nat.le_add_right _ _) fun b o hb e => (hsb.2 b fun z => hb (by rw [z]; exact List.mem_cons_self)).trans e) hm2) B3 g3 hkp3
abbrev newS (w : World) : Obj := { cls := .type "set", dict := none, data := .set #[] 0 (.fresh 0 0 (!w.params.followText "set-order")) }
set_option maxHeartbeats 3200000 in
theorem made {l : Addr} {items : Array Value} (ks : List Row) {Q : Value → Shared → Prop} (hh : A.handled = none) (hled : s.heap.IsList l items) (hit : items.toList = ks.map fun p => Value.ref p.1) (hkk : Tups P w s.heap ks) (few : ks.length ≤ 300) (hu : A.units + 3 < cLine)
    (h : ∀ (h' : Heap) (tk : Nat) L es ep t, Big P w h' s.heap.objs.size L es ep t → Came ks ks.length L → (∀ b o, s.heap.get? b = some o → h'.get? b = some o) → Q (.ref s.heap.objs.size) { s with heap := h', toks := tk }) : wpAny (model P w) A (call (.type "set") [.ref l]) Q E s := by
  have zi : items.size = ks.length := by have := congrArg List.length hit; simpa using this
  obtain ⟨c, tll, hmro⟩ := F.called_set.mro
  have hmade := F.called_set.made; have hsub := F.called_set.sub
  refine wpAny_call ?_
  refine codeAny_of_tree ?_
  show wpAny _ _ (callAny (.type "set") _) _ _ _; refine wpAny_pure ⟨Code.quiet_builtin _ (by decide +kernel), codeAny_builtin F.entry_type_call ?_⟩
  rw [Around.under_plain (weight_type_call_type "set" [Value.ref l] []) rfl]
  have n1 := F.called_set.notType; have n2 := F.called_set.canCreate; have n3 := F.typeCall_set_1 (.ref l)
  repeat any_goals first | assumption | wp_step
  refine codeAny_mono (code_set_led1 (.ref l) (E := E) (Q₁ := fun obj s₁ => obj = .ref s.heap.objs.size ∧ s₁ = { s with heap := s.heap.push (newS w) }) ⟨rfl, rfl⟩) fun r s₁ hr => ?_
  rcases r with e | fl
  · exact hr
  cases fl with
  | ret obj =>
    obtain ⟨rfl, rfl⟩ := hr
    have hS : (s.heap.push (newS w)).get? s.heap.objs.size = some (newS w) := Heap.get?_push_size _ rfl
    have hT : Shared.TypeIs { s with heap := s.heap.push (newS w) } (.ref s.heap.objs.size) "set" := ⟨_, hS, rfl⟩
    have i1 := F.called_set.init.lookup; have i2 := F.called_set.init.bind (.ref s.heap.objs.size)
    repeat any_goals first | assumption | wp_step
    refine codeAny_mono (codeAny_call_builtin (R := wants (fun r s₂ => r = .none ∧ ∃ h' tk L es ep t, s₂ = { s with heap := h', toks := tk } ∧ Big P w h' s.heap.objs.size L es ep t ∧ Came ks ks.length L ∧ ∀ b o, s.heap.get? b = some o → h'.get? b = some o) E) F.called_set.init.plain F.entry_set_init (check_set_init_1 hT ?_)) fun r₂ s₂ hr₂ => ?_
    · obtain ⟨⟨ocls, odict, odata, oslots⟩, hol, hcl, nl, hdl⟩ := hled
      simp only at hcl hdl; subst hcl hdl
      have hol' : (s.heap.push (newS w)).get? l = some { cls := .type "list", dict := odict, data := .seq items nl, slots := oslots } := Heap.get?_push_of_some _ hol
      have u1 := F.sub_list_set; have u2 := F.sub_list_frozenset
      have u3 : (Value.type "list" == Value.type "dict") = false := by decide
      have hl1 : (s.heap.push (newS w)).IsList l items := ⟨_, hol', rfl, nl, rfl⟩
      unfold Builtin.«set.__init__»
      unfold noKeywords Builtin.Frozenset.updateFrom
      generalize hPI : pyIter = PI
      wp_walk
      subst hPI
      refine wpAny_pyIter_list hl1 (wpAny_bind (wpAny_runValue ?_))
      have ls : l < s.heap.objs.size := Heap.lt_size hol
      have h3 : A.in1.in1.in1.handled = none := by simp [hh]
      have zz : (s.heap.push (newS w)).objs.size = s.heap.objs.size + 1 := Heap.size_push ..
      have ne1 : l ≠ (s.heap.push (newS w)).objs.size := by rw [zz]; exact Nat.ne_of_lt (Nat.lt_succ_of_lt ls)
      have ne2 : s.heap.objs.size ∉ [(s.heap.push (newS w)).objs.size, l] := by rw [zz]; simp; exact Nat.ne_of_gt ls
      have vals : ∀ (i : Nat) (v : Value), items[i]? = some v → ∃ p, ks[i]? = some p ∧ v = .ref p.1 := fun i v hv => by
        rw [← Array.getElem?_toList, hit, List.getElem?_map] at hv
        obtain ⟨p, hpp, rfl⟩ := Option.map_eq_some_iff.mp hv
        exact ⟨p, hpp, rfl⟩
      have noneO : ∀ b, s.heap.objs.size ≤ b → s.heap.get? b = none := fun b hb => by
        cases q : s.heap.get? b with
        | none => rfl
        | some oo => exact absurd (Nat.lt_of_lt_of_le (Heap.lt_size q) hb) (Nat.lt_irrefl _)
      have hS2 : ((s.heap.push (newS w)).push { cls := .type "list_iterator", data := .fields #[.ref l, .int 0 0] }).get? s.heap.objs.size = some (newS w) := Heap.get?_push_of_some _ hS
      refine loop ((Walks.list h3 _ l ne1 items).toS) s.heap.objs.size ne2 ks zi few vals s.heap hkk (noneO _ (Nat.le_refl _)) (fun b hb => noneO b (by rw [List.mem_singleton.mp hb, zz]; exact Nat.le_succ _)) hu (items.size - 0) 0 _ (by omega) (Nat.zero_le _) ⟨⟨_, Heap.get?_push_size _ rfl, rfl, rfl⟩, hl1.push _⟩
        (fun b o e => Heap.get?_push_of_some _ (Heap.get?_push_of_some _ e)) ⟨[], #[], 0, _, fresh hS2, ⟨fun p h => (by cases h), fun j p hj => absurd hj (Nat.not_lt_zero _), Nat.le_refl _⟩⟩ fun s' L es ep t hm B g kp => ?_
      obtain ⟨h', g2, d', tk', os2⟩ := s'
      obtain rfl : g2 = s.gens := hm.gens; obtain rfl : d' = s.drawn := hm.drawn; obtain rfl : os2 = s.os := hm.os
      show wpAny _ _ _ _ _ _; refine wpAny_pure ?_
      show wpAny _ _ (ret Value.none) _ _ _; rw [zi] at g
      exact wpAny_pure ⟨rfl, h', tk', L, es, ep, t, rfl, B, g, kp⟩
    · rcases r₂ with e | fl₂
      · exact hr₂
      cases fl₂ with
      | ret r =>
        obtain ⟨rfl, h', tk, L, es, ep, t, rfl, B, g, kp⟩ := hr₂
        repeat any_goals first | assumption | wp_step
        exact h _ _ _ _ _ _ B g kp
      | _ => exact hr₂.elim
  | _ => exact hr.elim
end
end FS
end
section
set_option Elab.async false
set_option linter.all false
set_option maxRecDepth 100000
set_option pp.maxSteps 400
/-! sorted(set of pairs), as rules. -/
namespace FS
open PySem PySem.Spec PyProof.Rows L2
def prOf (k : List Int) : Int × Int := (k.getD 0 0, k.getD 1 0)
/-- the pair that a value stands for, by the rws -/
def kR (L : List Row) : Value → Int × Int
  | .ref a => match L.find? fun p => p.1 == a with
    | some p => prOf p.2
    | none => (0, 0)
  | _ => (0, 0)
section
variable {P : Program} {w : World} {A : Around} {E : Value → Shared → Prop} {s : Shared} {a : Addr} {L : List Row} {es : Array (Int × Value)} {ep : Nat} {t : SetTable}
theorem kR_ref {h : Heap} (T : Tups P w h L) {p : Row} (hpp : p ∈ L) : kR L (.ref p.1) = prOf p.2 := by
  show (match L.find? fun q => q.1 == p.1 with | some p => prOf p.2 | none => (0, 0)) = _
  cases e : L.find? fun q => q.1 == p.1 with
  | none =>
    have := List.find?_eq_none.mp e p hpp
    simp at this
  | some q =>
    have e1 : q.1 = p.1 := by simpa using List.find?_some e
    have a1 := T q (List.mem_of_find?_eq_some e)
    rw [e1] at a1
    show prOf q.2 = prOf p.2
    rw [a1.inj (T p hpp)]
theorem isPair_of {h : Heap} {p : Row} (x : IsT P w h p.2 p.1) (h2 : p.2.length = 2) : Srt.IsPair h (.ref p.1) (prOf p.2).1 (prOf p.2).2 := by
  obtain ⟨o, items, n, hoo, hc, hd, hi⟩ := x
  obtain ⟨q, k⟩ := p
  match k, h2 with
  | [i, j], _ =>
    have hi := ints_of_items hi
    have e : ∃ t u, items.toList = [.int i t, .int j u] := by
      generalize items.toList = l at hi
      cases hi with
      | cons _ t hi =>
        cases hi with
        | cons _ u hi =>
          cases hi
          exact ⟨t, u, rfl⟩
    obtain ⟨t, u, e⟩ := e
    have e2 : items = #[.int i t, .int j u] := Array.toList_inj.mp e
    subst e2
    exact ⟨q, o, t, u, n, rfl, hoo, hc, hd⟩
theorem srt {Q : Value → Shared → Prop} (B : Big P w s.heap a L es ep t) (T : Tups P w s.heap L) (hh : A.handled = none) (h2 : ∀ p ∈ L, p.2.length = 2)
    (hQ : ∀ s' d (L' : List Row) (n : Nat), (∀ b o, s.heap.get? b = some o → s'.heap.get? b = some o) → s'.gens = s.gens → s'.os = s.os → s.heap.objs.size ≤ d → s'.heap.get? d = some (seqObj "list" (L'.map fun q => Value.ref q.1).toArray n) → (∀ p ∈ L', p ∈ L) → (∀ p ∈ L, p.2 ∈ L'.map (·.2)) → L'.Pairwise (fun p q => FM.Lex (prOf p.2) (prOf q.2)) → L'.length ≤ 300 → Q (.ref d) s') :
    wpAny (model P w) A (call (.builtin "sorted") [Value.ref a]) Q E s := by
  obtain ⟨o, hoo, hexx, hd⟩ := B.atO
  have zs := B.size
  have few := B.few
  apply Calls.call_function_entry kind_sorted plain_sorted entry_sorted (args_sorted1 _)
  unfold Builtin.«sorted»
  refine wpAny_bind (m := checkCount "sorted" 1 1 _) ?_
  refine wpAny_pure ?_
  refine wpAny_bind (collect_set (A := A.in1) hh ⟨o, hoo, hexx.1, hd⟩ B.fits (by unfold scanBound; omega) B.tab.ris B.led fun s1 vs k1 zsz g1 o1 pm => ?_)
  have ev : es.toList.map (·.2) = L.map fun q => Value.ref q.1 := by rw [B.rws]; simp [rowsOf, List.map_map, Function.comp_def]
  rw [ev] at pm
  have lv : vs.length ≤ 300 := by rw [pm.length_eq, List.length_map]; exact few
  refine wpAny_bind ?_
  refine wpAny_newList ?_ (by rw [sizeLine_eq]; omega)
  have hoLst : (s1.heap.push (seqObj "list" vs.toArray 0)).get? s1.heap.objs.size = some (seqObj "list" vs.toArray 0) := Heap.get?_push_size _ rfl
  have T2 : Tups P w (s1.heap.push (seqObj "list" vs.toArray 0)) L := fun p hpp => isT_keep (T p hpp) fun b u e => Heap.get?_push_of_some _ (k1 b u e)
  have isp : ∀ v ∈ vs, Srt.IsPair (s1.heap.push (seqObj "list" vs.toArray 0)) v (kR L v).1 (kR L v).2 := fun v hv => by
    obtain ⟨p, hpp, rfl⟩ := List.mem_map.mp (pm.mem_iff.mp hv)
    rw [kR_ref T2 hpp]
    exact isPair_of (T2 p hpp) (h2 p hpp)
  refine wpAny_bind (wpAny_holding (wpAny_call_entry (Q := _) slot_list_sort ⟨_, hoLst, rfl⟩ entry_list_sort (SrtO.list_sort_ord (s := { s1 with heap := s1.heap.push (seqObj "list" vs.toArray 0) }) (SrtO.swo_lex (kR L)) hoLst (by rw [sizeLine_eq]; omega) (fun z => SrtO.pairs_sortableO (by omega) isp fun o e c => ?_) fun out q1 q2 => ⟨_, rfl, ?_⟩) (args_list_sort _)))
  · rw [show ({ s1 with heap := s1.heap.push (seqObj "list" vs.toArray 0) } : Shared).heap.get? s1.heap.objs.size = _ from hoLst] at e
    cases e
    have cc := Value.type.inj c
    exact absurd cc (by decide)
  have pm2 : out.Perm (L.map fun q => Value.ref q.1) := q2.perm.trans pm
  obtain ⟨L', eL, sub⟩ : ∃ L' : List Row, out = L'.map (fun q => Value.ref q.1) ∧ ∀ p ∈ L', p ∈ L := by
    have key : ∀ out : List Value, (∀ v ∈ out, ∃ p ∈ L, v = Value.ref p.1) → ∃ L' : List Row, out = L'.map (fun q => Value.ref q.1) ∧ ∀ p ∈ L', p ∈ L := fun out => by
      induction out with
      | nil => exact fun _ => ⟨[], rfl, fun p hpp => by cases hpp⟩
      | cons v out ih =>
        intro hv
        obtain ⟨p, hpp, rfl⟩ := hv v List.mem_cons_self
        obtain ⟨L', e, sbt⟩ := ih fun u hu => hv u (List.mem_cons_of_mem _ hu)
        exact ⟨p :: L', by rw [e]; rfl, fun q hq => by rcases List.mem_cons.mp hq with rfl | hq; exact hpp; exact sbt q hq⟩
    refine key out fun v hv => ?_
    obtain ⟨p, hpp, rfl⟩ := List.mem_map.mp (pm2.mem_iff.mp hv)
    exact ⟨p, hpp, rfl⟩
  subst eL
  obtain ⟨c, hc⟩ := sortedHeap_at (vs := vs) (out := (L'.map fun q => Value.ref q.1).toArray) hoLst
  -- a pair is its row's
  have kmap : ∀ M : List Row, (∀ p ∈ M, p ∈ L) → (M.map fun q => Value.ref q.1).map (kR L) = M.map fun q => prOf q.2 := fun M hM => by
    rw [List.map_map]
    exact List.map_congr_left fun p hpp => kR_ref T2 (hM p hpp)
  have inj : ∀ p ∈ L, ∀ q ∈ L, prOf p.2 = prOf q.2 → p.2 = q.2 := fun p hpp q hq e => by
    have l1 := h2 p hpp
    have l3 := h2 q hq
    obtain ⟨pa, k⟩ := p
    obtain ⟨qa, k'⟩ := q
    match k, k', l1, l3 with
    | [i, j], [i', j'], _, _ =>
      have e1 : i = i' := congrArg Prod.fst e
      have e2 : j = j' := congrArg Prod.snd e
      rw [e1, e2]
  have ndL : (L.map fun q => prOf q.2).Nodup := by
    have := B.nd
    unfold List.Nodup at this ⊢
    rw [List.pairwise_map] at this ⊢
    exact List.Pairwise.imp_of_mem (fun hpp hq ne e => ne (inj _ hpp _ hq e)) this
  have pm3 : (L'.map fun q => prOf q.2).Perm (L.map fun q => prOf q.2) := by
    have := pm2.map (kR L)
    rw [kmap L' sub, kmap L fun p hpp => hpp] at this
    exact this
  have nd' := pm3.nodup_iff.mpr ndL
  refine wpAny_pure ⟨_, rfl, hQ _ s1.heap.objs.size L' c (fun b u e => ?_) g1 o1 zsz hc sub (fun p hpp => ?_) ?_ (by have := pm3.length_eq; simp at this; omega)⟩
  · have q := k1 b u e
    have hlt := Heap.lt_size q
    show (sortedHeap (s1.heap.push (seqObj "list" vs.toArray 0)) s1.heap.objs.size vs _).get? b = some u
    have ne := Nat.ne_of_lt hlt
    rw [sortedHeap_old ne (by rw [size_push']; exact Nat.lt_succ_of_lt hlt), Heap.get?_push_of_some _ q]
  · have : prOf p.2 ∈ L'.map fun q => prOf q.2 := pm3.mem_iff.mpr (List.mem_map.mpr ⟨p, hpp, rfl⟩)
    obtain ⟨q, hqq, e⟩ := List.mem_map.mp this
    exact List.mem_map.mpr ⟨q, hqq, inj q (sub q hqq) p hpp e⟩
  · have q1 : (L'.map fun q => Value.ref q.1).Pairwise _ := q1
    rw [List.pairwise_map] at q1
    unfold List.Nodup at nd'
    rw [List.pairwise_map] at nd'
    refine (q1.and nd').imp_of_mem fun {p q} hpp hq ⟨x, y⟩ => ?_
    replace x : SrtO.lexB (kR L (.ref q.1)) (kR L (.ref p.1)) = false := x
    rw [kR_ref T2 (sub p hpp), kR_ref T2 (sub q hq)] at x
    have x := SrtO.lexB_no.mp x
    unfold FM.Lex
    have : (prOf p.2).1 ≠ (prOf q.2).1 ∨ (prOf p.2).2 ≠ (prOf q.2).2 := by
      by_cases e : (prOf p.2).1 = (prOf q.2).1
      · exact .inr fun e2 => y (Prod.ext e e2)
      · exact .inl e
    omega
end
end FS
end
section
set_option Elab.async false
set_option linter.all false
set_option maxRecDepth 100000
set_option pp.maxSteps 300
/-! sorted(set(points)) by data; the hull. -/
namespace FS
open PySem PySem.Spec PyProof.Rows L2
def SetO (P : Program) (w : World) (a : Addr) (L : List Row) : HO := .ext fun h => ∃ es ep t, Big P w h a L es ep t
theorem setO_ok {P : Program} {w : World} {H : Hp} {h : Heap} {a : Addr} {L : List Row} {es : Array (Int × Value)} {ep : Nat} {t : SetTable} (B : Big P w h a L es ep t) : ObjOk P w H h a (SetO P w a L) := by
  obtain ⟨o, hoo, r⟩ := id B.atO
  refine ⟨⟨es, ep, t, B⟩, ⟨o, hoo⟩, fun h1 h2 p k => ?_⟩
  obtain ⟨es, ep, t, B⟩ := p
  exact ⟨es, ep, t, B.keep k⟩
section
variable {X : Cx}
def rSet (K : PySem.W.Frag) (P : Program) (w : World) : List V → Hp → VK → Prop := fun xs H Q => ∃ (l : Addr) (ks : List Row), xs = [V.ref l] ∧ SqL K H l (ks.map fun p => V.ref p.1) ∧ (∀ p ∈ ks, SqT K H p.1 (p.2.map V.int)) ∧ ks.length ≤ 300 ∧
  ∀ a L, H a = none → (∀ p ∈ L, p ∈ ks) → (∀ p ∈ ks, p.2 ∈ L.map (·.2)) → Q (.ref a) (upd H a (SetO P w a L))
theorem c_set (hc : X.calm = true) (hu : X.A.units + 64 < cLine) : CallR X (.type "set") (rSet X.K X.prog X.w) := by
  rintro pins s σ H xs us Q I r ⟨l, ks, rfl, hled, hkk, hful, q⟩
  rw [Vals.ref1 r]
  obtain ⟨its, rvv, pl, zsz⟩ := I.list hled
  refine made (P := X.prog) (w := X.w) ks (I.ok.hd hc) pl.isList (by simpa using refs_of_vals rvv) (fun p hpp => I.isT (hkk p hpp)) hful (by omega) fun h' tk L es ep t B g k => ?_
  refine ⟨.ref s.heap.objs.size, _, I.laid (t' := tk) k (Nat.le_refl _) (setO_ok B), rfl, q _ L (I.hok.fresh (Nat.le_refl _)) g.sub fun p hpp => ?_⟩
  obtain ⟨j, hj⟩ := List.getElem?_of_mem hpp
  exact g.all j p (List.getElem?_eq_some_iff.mp hj).1 hj
def rSrt (K : PySem.W.Frag) (P : Program) (w : World) : List V → Hp → VK → Prop := fun vs H Q => ∃ (a : Addr) (L : List Row), vs = [V.ref a] ∧ H a = some (SetO P w a L) ∧ (∀ p ∈ L, SqT K H p.1 (p.2.map V.int)) ∧ (∀ p ∈ L, p.2.length = 2) ∧
  ∀ (L' : List Row) (d : Addr), (∀ p ∈ L', p ∈ L) → (∀ p ∈ L, p.2 ∈ L'.map (·.2)) → L'.Pairwise (fun p q => FM.Lex (prOf p.2) (prOf q.2)) → H d = none → Q (.ref d) (upd H d (.lst (L'.map fun q => V.ref q.1)))
theorem c_sorted (hc : X.calm = true) : CallR X (.builtin "sorted") (rSrt X.K X.prog X.w) := by
  rintro pins s σ H vs us Q I r ⟨a, L, rfl, ha, hkk, h2, q⟩
  obtain ⟨es, ep, t, B⟩ : ∃ es ep t, Big X.prog X.w s.heap a L es ep t := (I.hok a _ ha).1
  rw [Vals.ref1 r]
  refine srt B (fun p hpp => I.isT (hkk p hpp)) (I.ok.hd hc) h2 fun s' d L' n k g o hd hg s1 s2 pw hled => ?_
  have hn : H d = none := I.hok.fresh hd
  have J : Inv X pins σ (upd H d (.lst (L'.map fun q => V.ref q.1))) { s with heap := s'.heap, gens := s'.gens, drawn := s'.drawn, toks := s'.toks } :=
    I.call (ch := []) (Un.laid k hd hn) (I.hok.laid k hd ⟨by rw [List.length_map, sizeLine_eq]; omega, _, n, vals_of_refs L', hg⟩) (by rw [g]; exact I.bare) (fun _ z => nomatch z)
  rw [show s' = { s with heap := s'.heap, gens := s'.gens, drawn := s'.drawn, toks := s'.toks } by cases s'; cases s; cases o; rfl]
  exact ⟨.ref d, _, J, rfl, q L' d s1 s2 pw hn⟩
end
end FS
namespace FL
open PySem PySem.Spec PyProof.Rows L2 FM
section
variable {X : Cx} {C : Cn} {G : List SD} {K : D → Prop} {e : Expr} {pos pos2 p p2 : Pos}
theorem rows_of {N : Addr → Prop} {H : Hp} : ∀ {ps : List Pt} {xs : List V}, HasL N H (prs ps) xs → ∃ ks : List FS.Row, xs = ks.map (fun p => V.ref p.1) ∧ ks.map (fun p => FS.prOf p.2) = ps ∧ ∀ p ∈ ks, p.2.length = 2 ∧ H p.1 = some (.tup (p.2.map V.int))
  | [], xs, h => by
    obtain rfl : xs = [] := h
    exact ⟨[], rfl, rfl, fun p hpp => by cases hpp⟩
  | q :: ps, xs, h => by
    obtain ⟨x, r, e, h1, h2⟩ : ∃ x r, xs = x :: r ∧ Has N H (pr q) x ∧ HasL N H (prs ps) r := h
    obtain ⟨a, rfl, ha⟩ := h1.pr
    obtain ⟨ks, e1, e2, e3⟩ := rows_of h2
    refine ⟨(a, [q.1, q.2]) :: ks, by rw [e, e1]; rfl, by rw [List.map_cons, e2]; rfl, fun p hpp => ?_⟩
    rcases List.mem_cons.mp hpp with rfl | hpp
    · exact ⟨rfl, ha⟩
    · exact e3 p hpp
theorem w_sortedSet (hm : X.mg "sorted" = none) (hm2 : X.mg "set" = none) (hu : X.A.units + 64 < cLine) (h : W X C G e fun d => ∃ ps : List Pt, d = .lst (prs ps) ∧ ps.length ≤ 300 ∧ ∀ L : List Pt, L.Pairwise Lex → (∀ x, x ∈ L ↔ x ∈ ps) → K (.lst (prs L)))
    (hc : X.calm = true := by rfl) (hg : Gl X "sorted" := by rfl) (hg2 : Gl X "set" := by rfl) (he : starEach [e] X.env = (false, eval e X.env) :: starEach [] X.env := by rfl) (hpl : (backTo pos2 (starEach [] X.env)).any (·.1) = false := by rfl) (he2 : starEach [.Call (.Name "set" p2) [e] [] pos2] X.env = (false, eval (.Call (.Name "set" p2) [e] [] pos2) X.env) :: starEach [] X.env := by rfl) (hpl2 : (backTo pos (starEach [] X.env)).any (·.1) = false := by rfl) :
    W X C G (.Call (.Name "sorted" p) [.Call (.Name "set" p2) [e] [] pos2] [] pos) K := fun A σ H E Q q => by
  refine toE (pe_callB (FS.c_sorted hc) hg hm (by decide +kernel) (pa_cons (pe_callTy (FS.c_set hc hu) hg2 hm2 PyProof.Rows.boot_set (pa_cons pwE pa_nil he) (by decide) (by decide) he hpl) pa_nil he2) (by decide) (by decide) he2 hpl2) ?_
  refine h A σ H E _ fun d v H1 r1 j1 hh k => ?_
  obtain ⟨ps, rfl, hled, k⟩ := k
  obtain ⟨l, xs, rfl, na, ha, hLL⟩ : ∃ p xs, v = .ref p ∧ ¬ _ ∧ H1 p = some (.lst xs) ∧ HasL _ H1 (prs ps) xs := hh
  obtain ⟨ks, rfl, e2, e3⟩ := rows_of hLL
  have kl : ks.length = ps.length := by rw [← e2, List.length_map]
  refine ⟨l, ks, rfl, SqL.of ha, fun p hpp => SqT.of (e3 p hpp).2, by omega, fun a L hn s1 s2 => ?_⟩
  have r2 : R C.M H1 (upd H1 a (FS.SetO X.prog X.w a L)) := R.new hn
  have j2 := j1.new (o := FS.SetO X.prog X.w a L) hn
  have tk : ∀ p ∈ L, upd H1 a (FS.SetO X.prog X.w a L) p.1 = some (.tup (p.2.map V.int)) := fun p hpp => by
    have := (e3 p (s1 p hpp)).2
    rw [upd_ne (ne_of_none this hn)]
    exact this
  refine ⟨a, L, rfl, upd_same, fun p hpp => SqT.of (tk p hpp), fun p hpp => (e3 p (s1 p hpp)).1, fun L' d t1 t2 pw hd => ?_⟩
  have r3 : R C.M (upd H1 a (FS.SetO X.prog X.w a L)) (upd (upd H1 a (FS.SetO X.prog X.w a L)) d (.lst (L'.map fun q => V.ref q.1))) := R.new hd
  have ex : ∀ (k : List Int), k.length = 2 → k.map V.int = [.int (FS.prOf k).1, .int (FS.prOf k).2] := fun k hkk => by
    match k, hkk with
    | [i, j], _ => rfl
  have tk3 : ∀ p ∈ L', upd (upd H1 a (FS.SetO X.prog X.w a L)) d (.lst (L'.map fun q => V.ref q.1)) p.1 = some (.tup [.int (FS.prOf p.2).1, .int (FS.prOf p.2).2]) := fun p hpp => by
    have e := tk p (t1 p hpp)
    rw [upd_ne (ne_of_none e hd), e, ex p.2 (e3 p (s1 p (t1 p hpp))).1]
  refine q (.lst (prs (L'.map fun p => FS.prOf p.2))) _ _ ((r1.trans r2).trans r3) (j2.new hd) ⟨d, _, rfl, ((E.go j1 r1).go j2 r2).avN hd, upd_same, ?_⟩ (k _ (List.pairwise_map.mpr pw) fun x => ?_)
  · refine HasL.of (by simp [prs]) fun i dd x h1 h2 => ?_
    unfold prs at h1
    rw [List.map_map, List.getElem?_map] at h1
    rw [List.getElem?_map] at h2
    cases hi : L'[i]? with
    | none => rw [hi] at h1; cases h1
    | some p =>
      rw [hi] at h1 h2
      cases h1
      cases h2
      exact has_pr (tk3 p (List.mem_of_getElem? hi))
  · rw [← e2]
    constructor
    · intro hxx
      obtain ⟨p, hpp, rfl⟩ := List.mem_map.mp hxx
      exact List.mem_map.mpr ⟨p, s1 p (t1 p hpp), rfl⟩
    · intro hxx
      obtain ⟨p, hpp, rfl⟩ := List.mem_map.mp hxx
      obtain ⟨p1, hp1, e1⟩ := List.mem_map.mp (s2 p hpp)
      obtain ⟨p2, hp2, e2'⟩ := List.mem_map.mp (t2 p1 hp1)
      exact List.mem_map.mpr ⟨p2, hp2, by rw [e2', e1]⟩
end
end FL
end
section
set_option Elab.async false
set_option linter.all false
set_option maxRecDepth 100000
set_option pp.maxSteps 300
/-! The hull walked. -/
namespace FL
open PySem PySem.Spec PyProof.Rows L2 FM
theorem nodup_len {α : Type} [DecidableEq α] : ∀ {l m : List α}, l.Nodup → (∀ x ∈ l, x ∈ m) → l.length ≤ m.length
  | [], m, _, _ => Nat.zero_le _
  | x :: l, m, hn, hs => by
    have h2 := (List.nodup_cons.mp hn).2
    have h1 := (List.nodup_cons.mp hn).1
    have hx := hs x List.mem_cons_self
    have := nodup_len (m := m.erase x) h2 fun y hy => (List.mem_erase_of_ne fun e => h1 (by rw [← e]; exact hy)).mpr (hs y (List.mem_cons_of_mem _ hy))
    rw [List.length_erase_of_mem hx] at this
    have := List.length_pos_of_mem hx
    rw [List.length_cons]
    omega
theorem popS_len {x : Pt} : ∀ {st : List Pt}, (popS x st).length ≤ st.length
  | [] => Nat.le_refl _
  | [b] => Nat.le_refl _
  | b :: a :: r => by
    unfold popS
    split
    · exact Nat.le_trans popS_len (Nat.le_succ _)
    · exact Nat.le_refl _
theorem popS_sub {x : Pt} : ∀ {st : List Pt}, ∀ p ∈ popS x st, p ∈ st
  | [], p, h => h
  | [b], p, h => h
  | b :: a :: r, p, h => by
    unfold popS at h
    split at h
    · exact List.mem_cons_of_mem _ (popS_sub p h)
    · exact h
section
variable {P : Program} {w : World} {K : PySem.W.Frag} {mg : Str → Option Value} {base : Heap}
theorem ok_hull (B : Bt mg) (d : Df K mg "_law_hull" s_law_hull ["_law_points"]) (gt : FnR P w K mg base "_law_turns" 1 F_turns) : FnR P w K mg base "_law_hull" 2 F_hull := by
  refine fnD d sc_law_hull (by rintro M ds Kp ⟨a, rfl, _⟩; rfl) fun f cdv A outer s0 H E M Kp ds hr h => ?_
  obtain ⟨ps, rfl, hl, sz, k⟩ := h
  have nd := sc_law_hull.nd
  have hu : (XC P w K mg base n_law_hull "_law_hull" s_law_hull f cdv A outer s0 H E).A.units + 64 < cLine := hr.units
  refine wss_cons (ws_par2O 1 2 (w_sortedSet B.sorted B.set hu (w_v 0 rfl ⟨ps, rfl, hl, fun L hL hm => ?_⟩)) nd)
  have lL : L.length ≤ 300 := by
    have nL : L.Nodup := hL.imp fun {p q} h e => by subst e; unfold Lex at h; omega
    exact Nat.le_trans (nodup_len nL fun x hx => (hm x).mp hx) hl
  have sL : ∀ p ∈ L, Sm 5000 p.1 ∧ Sm 5000 p.2 := fun p hp => sz p ((hm p).mp hp)
  have kk : Kp (.lst (prs (hullL L))) := k _ ⟨L, hL, hm, rfl⟩
  refine wss_cons (ws_if (wt_lt (w_len B.len (w_v 1 rfl ⟨_, .inr rfl, w_int ⟨_, _, rfl, rfl, fun hz => ?_, fun hz => wss_nil ?_⟩⟩))))
  · have hz : ((prs L).length : Int) < 3 := of_decide_eq_true hz
    rw [prs_len] at hz
    unfold hullL at kk
    rw [if_pos (by omega)] at kk
    exact wss_one (ws_ret (w_v 1 rfl kk))
  have hz : ¬ ((prs L).length : Int) < 3 := of_decide_eq_false hz
  rw [prs_len] at hz
  unfold hullL at kk
  rw [if_neg (by omega)] at kk
  refine wss_cons (ws_for (wi_tup (w_tup (wa_cons (w_v 1 rfl (wa_cons (w_revL (w_v 1 rfl ⟨_, rfl, wa_nil ⟨by show 2 ≤ 1000; decide, _, rfl, fun Zs => ?_⟩⟩))))))))
  have er : (prs L).reverse = prs L.reverse := by unfold prs; rw [List.map_reverse]
  rw [er]
  refine ⟨fun i G => ∃ o3 o4 o5 o6, noOw [o3, o4, o5, o6] = true ∧ G = [.val (.lst (prs ps)), .val (.lst (prs L)), .own (prs (([(half L).dropLast, (half L.reverse).dropLast].take i).flatten)), o3, o4, o5, o6], ⟨.no, .no, .no, .no, rfl, rfl⟩, ?_, ?_⟩
  · rintro i G hi ⟨o3, o4, o5, o6, ho, rfl⟩
    have one : ∀ (F : List Pt) (way : List Pt), F.length ≤ 300 → (∀ p ∈ way, Sm 5000 p.1 ∧ Sm 5000 p.2) → way.length ≤ 300 → ∀ (C : Cn) (KS : KD) o4 o5 o6, noOw [o4, o5, o6] = true → (∀ o3 o4 o5 o6, noOw [o3, o4, o5, o6] = true → KS.nx [.val (.lst (prs ps)), .val (.lst (prs L)), .own (prs (F ++ (half way).dropLast)), o3, o4, o5, o6]) →
        WSs (XC P w K mg base n_law_hull "_law_hull" s_law_hull f cdv A outer s0 H E) C [.val (.lst (prs ps)), .val (.lst (prs L)), .own (prs F), .val (.lst (prs way)), o4, o5, o6] (inB (defBody s_law_hull) 2) KS := by
      intro F way hF sw lw C KS o4 o5 o6 ho hn
      refine wss_cons (ws_setLst 4 (wa_nil ⟨by show 0 ≤ 1000; decide, ?_⟩) nd)
      refine wss_cons (ws_for (wi_list (w_v 3 rfl ⟨_, rfl, fun Zs2 => ?_⟩)))
      rw [prs_len]
      refine ⟨fun j G => ∃ o5 o6, noOw [o5, o6] = true ∧ j ≤ way.length ∧ G = [.val (.lst (prs ps)), .val (.lst (prs L)), .own (prs F), .val (.lst (prs way)), .own (prs ((way.take j).foldl halfS []).reverse), o5, o6] ∧ (∀ p ∈ (way.take j).foldl halfS [], p ∈ way) ∧ ((way.take j).foldl halfS []).length ≤ j, ?_, ?_, ?_⟩
      · exact ⟨o5, o6, by simp [noOw] at ho ⊢; simp [ho], Nat.zero_le _, rfl, fun p hp => (by cases hp), Nat.le_refl _⟩
      · rintro j G hj ⟨o5, o6, ho, hj1, rfl, hsub, hlen⟩
        replace hj : j < way.length := hj
        rw [nthD_prs hj]
        have hx := List.getElem_mem hj
        have eS : (way.take (j + 1)).foldl halfS [] = halfS ((way.take j).foldl halfS []) way[j] := by rw [List.take_succ_eq_append_getElem hj, List.foldl_append]; rfl
        generalize (way.take j).foldl halfS [] = st at hsub hlen eS ⊢
        generalize way[j] = x at hx eS ⊢
        obtain ⟨x1, x2⟩ := x
        obtain ⟨sx1, sx2⟩ := sw _ hx
        refine wg_tup (wgs_cons fun _ => wg_name 5 (wgs_cons fun _ => wg_name 6 (wgs_nil ?_) nd) nd) rfl
        refine wss_cons (ws_while (fun m G => ∃ st' : List Pt, m = st'.length ∧ popS (x1, x2) st' = popS (x1, x2) st ∧ (∀ p ∈ st', p ∈ way) ∧ st'.length ≤ j ∧ G = [.val (.lst (prs ps)), .val (.lst (prs L)), .own (prs F), .val (.lst (prs way)), .own (prs st'.reverse), .val (.int x1), .val (.int x2)]) st.length ⟨st, rfl, rfl, hsub, hlen, rfl⟩ ?_)
        rintro m G ⟨st', rfl, e1, hs', hl', rfl⟩
        have fin : popS (x1, x2) st' = st' → ∀ (C : Cn) (KS : KD), (∀ o5 o6, noOw [o5, o6] = true → KS.nx [.val (.lst (prs ps)), .val (.lst (prs L)), .own (prs F), .val (.lst (prs way)), .own (prs ((way.take (j + 1)).foldl halfS []).reverse), o5, o6]) →
            WSs (XC P w K mg base n_law_hull "_law_hull" s_law_hull f cdv A outer s0 H E) C [.val (.lst (prs ps)), .val (.lst (prs L)), .own (prs F), .val (.lst (prs way)), .own (prs st'.reverse), .val (.int x1), .val (.int x2)] ((inB (inB (defBody s_law_hull) 2) 1).drop 1) KS := by
          intro hp C KS hn
          have e2 : (way.take (j + 1)).foldl halfS [] = (x1, x2) :: st' := by rw [eS]; unfold halfS; rw [← e1, hp]
          rw [e2] at hn
          refine wss_one (ws_app 4 rfl (by rw [prs_len, List.length_reverse]; omega) (w_pair (w_v 5 rfl (w_v 6 rfl ⟨_, _, rfl, rfl, ?_⟩))))
          have := hn (.val (.int x1)) (.val (.int x2)) rfl
          rw [List.reverse_cons] at this
          unfold prs at this
          rw [List.map_append] at this
          exact this
        have inv' : (∀ p ∈ (way.take (j + 1)).foldl halfS [], p ∈ way) ∧ ((way.take (j + 1)).foldl halfS []).length ≤ j + 1 := by
          rw [eS]
          unfold halfS
          refine ⟨fun p hp => ?_, ?_⟩
          · rcases List.mem_cons.mp hp with rfl | hpp
            · exact hx
            · exact hsub p (popS_sub p hpp)
          · rw [List.length_cons]
            have := popS_len (x := (x1, x2)) (st := st)
            omega
        refine wt_and (wt_gt (w_lenOwn 4 rfl (w_int ⟨_, _, rfl, rfl, fun hz => ?_, fun hz => ⟨fun z => (by cases z), fun _ => ?_⟩⟩) B.len))
        · have hz : 1 < ((prs st'.reverse).length : Int) := of_decide_eq_true hz
          rw [prs_len, List.length_reverse] at hz
          match st', hz with
          | b :: a :: r, _ =>
            have eb : (prs (b :: a :: r).reverse)[(prs (b :: a :: r).reverse).length - 1]? = some (pr b) := by
              rw [prs_len, List.length_reverse]
              unfold prs
              rw [List.getElem?_map, List.getElem?_reverse (by simp)]
              simp
            have ea : (prs (b :: a :: r).reverse)[(prs (b :: a :: r).reverse).length - 2]? = some (pr a) := by
              rw [prs_len, List.length_reverse]
              unfold prs
              rw [List.getElem?_map, List.getElem?_reverse (by simp; omega)]
              rw [show (b :: a :: r).length - 1 - ((b :: a :: r).length - 2) = 1 by simp]
              rfl
            have sb := sw b (hs' b List.mem_cons_self)
            have sa := sw a (hs' a (List.mem_cons_of_mem _ List.mem_cons_self))
            refine wt_le (w_call gt hr (wa_cons (w_ixOwn 4 rfl (w_neg (w_int ⟨_, rfl, _, _, rfl, atI_neg (i := 2) ea (by decide) (by rw [prs_len]; simp), ?_⟩)))))
            refine wa_cons (w_ixOwn 4 rfl (w_neg (w_int ⟨_, rfl, _, _, rfl, atI_neg (i := 1) eb (by decide) (by rw [prs_len]; simp), ?_⟩)))
            refine wa_cons (w_pair (w_v 5 rfl (w_v 6 rfl ⟨_, _, rfl, rfl, wa_nil ⟨a, b, (x1, x2), rfl, sa, sb, ⟨sx1, sx2⟩, rfl, w_int ⟨_, _, rfl, rfl, fun hy => ?_, fun hy => ?_⟩⟩⟩)))
            · have hy : trn a b (x1, x2) ≤ 0 := of_decide_eq_true hy
              refine wss_one (ws_pop 4 rfl (by unfold prs; simp) ?_)
              refine ⟨(a :: r).length, by simp, a :: r, rfl, ?_, fun p hp => hs' p (List.mem_cons_of_mem _ hp), by simp at hl' ⊢; omega, ?_⟩
              · rw [← e1]
                show _ = popS (x1, x2) (b :: a :: r)
                conv => rhs; unfold popS
                rw [if_pos hy]
              · have : (prs (b :: a :: r).reverse).dropLast = prs (a :: r).reverse := by
                  rw [List.reverse_cons (a := b)]
                  unfold prs
                  rw [List.map_append]
                  exact List.dropLast_concat
                show [_, _, _, _, SD.own _, _, _] = _
                rw [this]
            · have hy : ¬ trn a b (x1, x2) ≤ 0 := of_decide_eq_false hy
              refine fin (by unfold popS; rw [if_neg hy]) _ _ ?_
              intro o5 o6 h
              exact ⟨o5, o6, h, hj, rfl, inv'.1, inv'.2⟩
        · have hz : ¬ 1 < ((prs st'.reverse).length : Int) := of_decide_eq_false hz
          rw [prs_len, List.length_reverse] at hz
          refine fin ?_ _ _ ?_
          · match st', hz with
            | [], _ => rfl
            | [b], _ => rfl
            | b :: a :: r, hz => simp at hz; omega
          · intro o5 o6 h
            exact ⟨o5, o6, h, hj, rfl, inv'.1, inv'.2⟩
      · rintro G ⟨o5, o6, ho, hj1, rfl, hsub, hlen⟩
        rw [List.take_length] at hlen hsub ⊢
        refine wss_freeze 4 rfl (wss_one (ws_extend 2 rfl (w_init (w_v 4 rfl ⟨_, rfl, _, rfl, ?_, ?_⟩))))
        · rw [List.length_dropLast, prs_len, prs_len, List.length_reverse]
          omega
        · have : prs F ++ (prs (way.foldl halfS []).reverse).dropLast = prs (F ++ (half way).dropLast) := by
            unfold prs half
            rw [List.map_append, ← List.map_dropLast]
          rw [this]
          exact hn (.val (.lst (prs way))) (.val (.lst (prs (half way)))) o5 o6 (by simp [noOw] at ho ⊢; simp [ho])
    have hi : i < 2 := hi
    have hi : i = 0 ∨ i = 1 := by omega
    have lenh : ∀ (way : List Pt), way.length ≤ 300 → (half way).length ≤ way.length := fun way _ => by
      have key : ∀ (l st : List Pt), (l.foldl halfS st).length ≤ l.length + st.length := fun l => by
        induction l with
        | nil => intro st; simp
        | cons x l ih =>
          intro st
          have := ih (halfS st x)
          have h2 := popS_len (x := x) (st := st)
          rw [List.length_cons, List.foldl_cons]
          unfold halfS at this ⊢
          rw [List.length_cons] at this
          omega
      unfold half
      rw [List.length_reverse]
      exact key way []
    have HN : ∀ (i : Nat) (F : List Pt), F = ([(half L).dropLast, (half L.reverse).dropLast].take i).flatten → ∀ o3 o4 o5 o6, noOw [o3, o4, o5, o6] = true → ∃ o3' o4' o5' o6', noOw [o3', o4', o5', o6'] = true ∧ [SD.val (.lst (prs ps)), .val (.lst (prs L)), .own (prs F), o3, o4, o5, o6] = [.val (.lst (prs ps)), .val (.lst (prs L)), .own (prs (([(half L).dropLast, (half L.reverse).dropLast].take i).flatten)), o3', o4', o5', o6'] := fun i F e o3 o4 o5 o6 h => ⟨o3, o4, o5, o6, h, by rw [e]⟩
    rcases hi with rfl | rfl
    · refine wg_name 3 ?_ nd
      refine one [] L (by simp) sL lL _ _ o4 o5 o6 (by simp [noOw] at ho ⊢; simp [ho]) ?_
      exact HN 1 _ (by simp)
    · refine wg_name 3 ?_ nd
      have e0 : ([(half L).dropLast, (half L.reverse).dropLast].take 1).flatten = (half L).dropLast := by simp
      rw [e0]
      have l1 := lenh L lL
      refine one (half L).dropLast L.reverse (by rw [List.length_dropLast]; omega) (fun p hp => sL p (List.mem_reverse.mp hp)) (by rw [List.length_reverse]; exact lL) _ _ o4 o5 o6 (by simp [noOw] at ho ⊢; simp [ho]) ?_
      exact HN 2 _ (by simp)
  · rintro G ⟨o3, o4, o5, o6, ho, rfl⟩
    refine wss_freeze 2 rfl (wss_one (ws_ret (w_v 2 rfl ?_)))
    have : ([(half L).dropLast, (half L.reverse).dropLast].take 2).flatten = (half L).dropLast ++ (half L.reverse).dropLast := by simp
    show Kp (.lst (prs (([(half L).dropLast, (half L.reverse).dropLast].take 2).flatten)))
    rw [this]
    exact kk
end
end FL
end
section
set_option Elab.async false
set_option linter.all false
set_option maxRecDepth 100000
set_option pp.maxSteps 300
/-! The layer once more, with the number of cells drawn from the bag. -/
namespace FL
open PySem PySem.Spec PyProof.Rows L2 FM
/-- at most n drawn -/
def KB (M : Md) (H : Hp) (n : Int) : Prop := 0 ≤ n ∧ ∀ b c, M.B = some (b, c) → ∃ x s k, H b = some (.lst [.int x, .int s, .int k, .ref c]) ∧ k ≤ n
def m0 (M : Md) : Md := { B := none, T := M.T }
theorem KB.keep {M : Md} {H H2 : Hp} {n : Int} (h : KB M H n) (r : R (m0 M) H H2) : KB M H2 n := ⟨h.1, fun b c e => by
  obtain ⟨x, s, k, e1, l⟩ := h.2 b c e
  exact ⟨x, s, k, r.kp b _ (fun _ z => by cases z) (fun ⟨_, z⟩ => by cases z) e1, l⟩⟩
theorem KB.new {M : Md} {H : Hp} {n : Int} {p : Addr} {o : HO} (h : KB M H n) (hp : H p = none) : KB M (upd H p o) n := h.keep (R.new hp)
theorem J.m0 {M : Md} {H : Hp} (j : J M H) : J (m0 M) H := ⟨fun _ _ z => (by cases z), j.2⟩
theorem R.ofm0 {M : Md} {H H2 : Hp} (r : R (m0 M) H H2) : R M H H2 := ⟨fun a o n _ e => r.kp a o n (fun ⟨_, z⟩ => by cases z) e, r.fr⟩
theorem J.ofm0 {M : Md} {H H2 : Hp} (j : J M H) (r : R (FL.m0 M) H H2) (j2 : J (FL.m0 M) H2) : J M H2 := ⟨fun b c e => by
  obtain ⟨x, s, k, cs, e1, a1, a2, a3, a4, e2, a5⟩ := j.1 b c e
  have kp := fun a o n e => r.kp a o n (fun ⟨_, z⟩ => by cases z) e
  exact ⟨x, s, k, cs, kp b _ (fun _ z => by cases z) e1, a1, a2, a3, a4, kp c _ (fun _ z => by cases z) e2, a5⟩, j2.2⟩
def spY (F : Md → Int → List D → (Int → D → Prop) → Prop) : Sp := fun vs H Q _ => ∃ M n ds K, J M H ∧ KB M H n ∧ HasL (AvM M) H ds vs ∧ F M n ds K ∧ ∀ n' d v H', R M H H' → J M H' → KB M H' n' → Has (AvM M) H' d v → K n' d → Q v H'
structure FnY (P : Program) (w : World) (K : PySem.W.Frag) (mg : Str → Option Value) (base : Heap) (x : Str) (k : Nat) (F : Md → Int → List D → (Int → D → Prop) → Prop) : Prop where
  ex : ∃ f fd ps, FnOk P w K mg base CX0 k f fd ps (spY F) ∧ mg x = some (.ref f) ∧ PySem.W.keepIn K (.ref f) = true ∧ Binds K fd ps []
section
variable (X : Cx) (C : Cn) (n : Int) (G : List SD)
def Y (e : Expr) (K : Int → D → Prop) : Prop := ∀ A σ H, Est C G A σ H → KB C.M H n → ∀ Q : VK, (∀ n' d v H2, R C.M H H2 → J C.M H2 → KB C.M H2 n' → Has (Av C.M G A) H2 d v → K n' d → Q v H2) → wE X e σ H Q
def YT (e : Expr) (K : Int → Bool → Prop) : Prop := ∀ A σ H, Est C G A σ H → KB C.M H n → ∀ Q : Bool → Hp → Prop, (∀ n' b H2, R C.M H H2 → J C.M H2 → KB C.M H2 n' → K n' b → Q b H2) → wT X e σ H Q
def YA (es : List Expr) (K : Int → List D → Prop) : Prop := ∀ A σ H, Est C G A σ H → KB C.M H n → ∀ Q : List V → Hp → Prop, (∀ n' ds vs H2, R C.M H H2 → J C.M H2 → KB C.M H2 n' → HasL (Av C.M G A) H2 ds vs → K n' ds → Q vs H2) → wA X es σ H Q
end
structure KY where
  nx : Int → List SD → Prop
  rt : Int → D → Prop := fun _ _ => False
structure EndsY (C : Cn) (K : KY) (D : Ends) : Prop where
  nx : ∀ n G A σ H, Est C G A σ H → KB C.M H n → K.nx n G → D.nx σ H
  rt : ∀ n d v H, J C.M H → R C.M C.H0 H → KB C.M H n → Has (AvM C.M) H d v → K.rt n d → D.rt v H
section
variable (X : Cx) (C : Cn) (n : Int) (G : List SD)
def YS (st : Stmt) (K : KY) : Prop := ∀ A σ H, Est C G A σ H → KB C.M H n → ∀ D : Ends, EndsY C K D → wS X st D σ H
def YSs (sts : List Stmt) (K : KY) : Prop := ∀ A σ H, Est C G A σ H → KB C.M H n → ∀ D : Ends, EndsY C K D → wSs X sts D σ H
end
section
variable {X : Cx} {C : Cn} {n : Int} {G : List SD} {K : Int → D → Prop} {KT : Int → Bool → Prop} {KA : Int → List D → Prop} {KS : KY} {a b c e tg : Expr} {es : List Expr} {st : Stmt} {sts body : List Stmt} {pos p : Pos} {x y : Str}
theorem y_nn (h : 0 ≤ n → Y X C n G e K) : Y X C n G e K := fun A σ H E B Q q => h B.1 A σ H E B Q q
theorem y_int {i j} (k : K n (.int i)) : Y X C n G (.Constant (.int i) j pos) K := fun A σ H E B Q q => toE pe_int (q _ _ _ H R.refl E.j B hasI k)
theorem y_v (i : Nat) {x : Str} {d : D} (h : G[i]? = some (.val d)) (k : K n d) (hN : X.N[i]? = some x := by rfl) (hv : Vis X.env.scope x := by first | exact Or.inl rfl | exact Or.inr (Or.inl rfl) | exact Or.inr (Or.inr rfl)) (hd : (x == ("__debug__" : Str)) = false := by decide) (hcd : (x == ("__classdict__" : Str)) = false := by decide) : Y X C n G (.Name x pos) K := fun A σ H E B Q q => by
  obtain ⟨v, e, hh⟩ := E.sl i _ h
  exact toE (pv i hN hv hd hcd) ⟨v, e, q _ d v H R.refl E.j B hh k⟩
theorem y_two {r : R2} {t : Expr} (hp : PE X t (tOp r (wE X a) (wE X b))) {K2 : Int → D → D → Prop} (ha : Y X C n G a fun n1 da => Y X C n1 G b fun n2 db => K2 n2 da db)
    (hr : ∀ A H n' x y da db Q, J C.M H → KB C.M H n' → Has (Av C.M G A) H da x → Has (Av C.M G A) H db y → K2 n' da db → (∀ d v H2, R (m0 C.M) H H2 → J C.M H2 → Has (Av C.M G A) H2 d v → K n' d → Q v H2) → (∀ p, H p = none → ¬ Av C.M G A p) → r x y H Q) : Y X C n G t K := fun A σ H E B Q q => by
  refine toE hp ?_
  refine ha A σ H E B _ fun n1 da x H1 r1 j1 b1 h1 k1 => ?_
  refine k1 A σ H1 (E.go j1 r1) b1 _ fun n2 db y H2 r2 j2 b2 h2 k2 => ?_
  exact hr A H2 n2 x y da db Q j2 b2 (h1.go j1 r2) h2 k2 (fun d v H3 r3 j3 h3 k3 => q n2 d v H3 (r1.trans (r2.trans r3.ofm0)) j3 (b2.keep r3) h3 k3) fun p hp => (E.go j2 (r1.trans r2)).avN hp
theorem y_opI {op : Operator} {Cd : Int → Int → Prop} {g : Int → Int → Int} (ho : OpR X (binaryOp op) (rI Cd fun i j => .int (g i j))) (h : Y X C n G a fun n1 da => Y X C n1 G b fun n2 db => ∃ i j, da = .int i ∧ db = .int j ∧ Cd i j ∧ K n2 (.int (g i j))) : Y X C n G (.BinOp a op b pos) K :=
  y_two (pe_op ho pwE pwE) h fun A H n' x y da db Q j _ hx hy k q _ => by
    obtain ⟨i, jj, rfl, rfl, c, k⟩ := k
    exact ⟨i, jj, hx, hy, c, q _ _ H R.refl j hasI k⟩
theorem y_opI0 {op : Operator} {g : Int → Int → Int} (ho : OpR X (binaryOp op) (rI0 fun i j => .int (g i j))) (h : Y X C n G a fun n1 da => Y X C n1 G b fun n2 db => ∃ i j, da = .int i ∧ db = .int j ∧ K n2 (.int (g i j))) : Y X C n G (.BinOp a op b pos) K :=
  y_two (pe_op ho pwE pwE) h fun A H n' x y da db Q j _ hx hy k q _ => by
    obtain ⟨i, jj, rfl, rfl, k⟩ := k
    exact ⟨i, jj, hx, hy, q _ _ H R.refl j hasI k⟩
theorem y_add (h : Y X C n G a fun n1 da => Y X C n1 G b fun n2 db => ∃ i j, da = .int i ∧ db = .int j ∧ K n2 (.int (i + j))) : Y X C n G (.BinOp a .Add b pos) K := y_opI0 op_add h
theorem y_sub (h : Y X C n G a fun n1 da => Y X C n1 G b fun n2 db => ∃ i j, da = .int i ∧ db = .int j ∧ K n2 (.int (i - j))) : Y X C n G (.BinOp a .Sub b pos) K := y_opI0 op_sub h
theorem y_mul (h : Y X C n G a fun n1 da => Y X C n1 G b fun n2 db => ∃ i j, da = .int i ∧ db = .int j ∧ MulOk i j ∧ K n2 (.int (i * j))) : Y X C n G (.BinOp a .Mult b pos) K := y_opI op_mulB h
theorem y_neg (h : Y X C n G a fun n1 da => ∃ i, da = .int i ∧ K n1 (.int (-i))) : Y X C n G (.UnaryOp .USub a pos) K := fun A σ H E B Q q => toE (pe_un un_neg pwE) (h A σ H E B _ fun n1 da x H1 r1 j1 b1 h1 k1 => by
  obtain ⟨i, rfl, k⟩ := k1
  exact ⟨i, h1, q _ _ _ H1 r1 j1 b1 hasI k⟩)
theorem y_ix (h : Y X C n G a fun n1 da => Y X C n1 G b fun n2 db => ∃ ds i d, (da = .tup ds ∨ da = .lst ds) ∧ db = .int i ∧ L2.atI ds i = some d ∧ K n2 d) (hs : PlainIx b := by exact fun _ _ => rfl) : Y X C n G (.Subscript a b pos) K :=
  y_two (pe_ix ix_seq pwE pwE hs) h fun A H n' x y da db Q j _ hx hy k q _ => by
    obtain ⟨ds, i, d, hd, rfl, e, k⟩ := k
    obtain rfl : y = .int i := hy
    rcases hd with rfl | rfl
    · obtain ⟨p, xs, rfl, hp, hL⟩ : ∃ p xs, x = .ref p ∧ H p = some (.tup xs) ∧ HasL _ H ds xs := hx
      obtain ⟨z, e2, hz⟩ := HasL.atI hL e
      exact .inr (.inl ⟨p, xs, i, z, rfl, rfl, SqT.of hp, e2, q d z H R.refl j hz k⟩)
    · obtain ⟨p, xs, rfl, _, hp, hL⟩ : ∃ p xs, x = .ref p ∧ ¬ _ ∧ H p = some (.lst xs) ∧ HasL _ H ds xs := hx
      obtain ⟨z, e2, hz⟩ := HasL.atI hL e
      exact .inl ⟨p, xs, i, z, rfl, rfl, SqL.of hp, e2, q d z H R.refl j hz k⟩
theorem y_if (h : YT X C n G c fun n' z => (z = true → Y X C n' G a K) ∧ (z = false → Y X C n' G b K)) : Y X C n G (.IfExp c a b pos) K := fun A σ H E B Q q => by
  refine toE (pe_ifExp pwT pwE pwE) (h A σ H E B _ fun n' z H2 r j b2 k => ?_)
  cases z with
  | true => exact iteT (k.1 rfl A σ H2 (E.go j r) b2 _ fun n3 d' v' H3 r' j' b3 h' k' => q _ _ _ H3 (r.trans r') j' b3 h' k')
  | false => exact iteF (k.2 rfl A σ H2 (E.go j r) b2 _ fun n3 d' v' H3 r' j' b3 h' k' => q _ _ _ H3 (r.trans r') j' b3 h' k')
theorem ya_nil (k : KA n []) : YA X C n G [] KA := fun A σ H E B Q q => toA pa_nil (q _ [] [] H R.refl E.j B rfl k)
theorem ya_cons (h : Y X C n G e fun n1 d => YA X C n1 G es fun n2 ds => KA n2 (d :: ds)) (he : starEach (e :: es) X.env = (false, eval e X.env) :: starEach es X.env := by rfl) : YA X C n G (e :: es) KA := fun A σ H E B Q q => by
  refine toA (pa_cons pwE pwA he) (h A σ H E B _ fun n1 d v H2 r j b1 hh k => ?_)
  refine k A σ H2 (E.go j r) b1 _ fun n2 ds vs H3 r' j' b2 h' k' => ?_
  exact q n2 (d :: ds) (v :: vs) H3 (r.trans r') j' b2 ⟨v, vs, rfl, hh.go j r', h'⟩ k'
theorem y_tup {k : Nat} (h : YA X C n G es fun n' ds => ds.length ≤ 1000 ∧ K n' (.tup ds)) : Y X C n G (.Tuple es k pos) K := fun A σ H E B Q q => by
  refine toE (pe_tup pwA) (h A σ H E B _ fun n' ds vs H2 r j b hh k => ?_)
  have hl := HasL.len hh
  refine ⟨Nat.le_of_lt (small1000 (by omega)), fun p hp => ?_⟩
  have r2 : R C.M H2 (upd H2 p (.tup vs)) := R.new hp
  exact q _ (.tup ds) _ _ (r.trans r2) (j.new hp) (b.new hp) ⟨p, vs, rfl, upd_same, hh.go j r2⟩ k.2
theorem y_lst (h : YA X C n G es fun n' ds => ds.length ≤ 1000 ∧ K n' (.lst ds)) : Y X C n G (.List es pos) K := fun A σ H E B Q q => by
  refine toE (pe_lst pwA) (h A σ H E B _ fun n' ds vs H2 r j b hh k => ?_)
  have hl := HasL.len hh
  refine ⟨Nat.le_of_lt (small1000 (by omega)), fun p hp => ?_⟩
  have r2 : R C.M H2 (upd H2 p (.lst vs)) := R.new hp
  exact q _ (.lst ds) _ _ (r.trans r2) (j.new hp) (b.new hp) ⟨p, vs, rfl, (E.go j r).avN hp, upd_same, hh.go j r2⟩ k.2
theorem y_pair {a b : Expr} {k : Nat} (h : Y X C n G a fun n1 da => Y X C n1 G b fun n2 db => ∃ i j, da = .int i ∧ db = .int j ∧ K n2 (pr (i, j))) (he : starEach [a, b] X.env = (false, eval a X.env) :: starEach [b] X.env := by rfl) (he2 : starEach [b] X.env = (false, eval b X.env) :: starEach [] X.env := by rfl) : Y X C n G (.Tuple [a, b] k pos) K :=
  y_tup (ya_cons (fun A σ H E B Q q => h A σ H E B Q fun n1 d v H2 r j b1 hh k => q n1 d v H2 r j b1 hh (ya_cons (fun A σ H E B Q q => k A σ H E B Q fun n2 d2 v H2 r j b2 hh k2 => q n2 d2 v H2 r j b2 hh (ya_nil (by
    obtain ⟨i, j, rfl, rfl, k⟩ := k2
    exact ⟨(by show 2 ≤ 1000; decide), k⟩))) he2)) he)
theorem y_len (hm : X.mg "len" = none) (h : Y X C n G e fun n' d => ∃ ds, (d = .tup ds ∨ d = .lst ds) ∧ K n' (.int ds.length)) (hg : Gl X "len" := by rfl) (he : starEach [e] X.env = (false, eval e X.env) :: starEach [] X.env := by rfl) (hpl : (backTo pos (starEach [] X.env)).any (·.1) = false := by rfl) : Y X C n G (.Call (.Name "len" p) [e] [] pos) K := fun A σ H E B Q q => by
  refine toE (pe_callB call_len_seq hg hm PySem.boot_len (pa_cons pwE pa_nil he) (by decide) (by decide) he hpl) ?_
  refine h A σ H E B _ fun n' d v H2 r j b hh k => ?_
  obtain ⟨ds, e, k⟩ := k
  rcases e with rfl | rfl
  · obtain ⟨p, xs, rfl, hp, hL⟩ : ∃ p xs, v = .ref p ∧ H2 p = some (.tup xs) ∧ HasL _ H2 ds xs := hh
    refine ⟨p, xs, rfl, .inr (SqT.of hp), ?_⟩
    rw [HasL.len hL]
    exact q _ _ _ H2 r j b hasI k
  · obtain ⟨p, xs, rfl, _, hp, hL⟩ : ∃ p xs, v = .ref p ∧ ¬ _ ∧ H2 p = some (.lst xs) ∧ HasL _ H2 ds xs := hh
    refine ⟨p, xs, rfl, .inl (SqL.of hp), ?_⟩
    rw [HasL.len hL]
    exact q _ _ _ H2 r j b hasI k
theorem y_tupOf (hm : X.mg "tuple" = none) (h : Y X C n G e fun n' d => ∃ ds, d = .lst ds ∧ K n' (.tup ds)) (hg : Gl X "tuple" := by rfl) (he : starEach [e] X.env = (false, eval e X.env) :: starEach [] X.env := by rfl) (hpl : (backTo pos (starEach [] X.env)).any (·.1) = false := by rfl) : Y X C n G (.Call (.Name "tuple" p) [e] [] pos) K := fun A σ H E B Q q => by
  refine toE (pe_callTy call_tuple_of hg hm (by decide +kernel) (pa_cons pwE pa_nil he) (by decide) (by decide) he hpl) ?_
  refine h A σ H E B _ fun n' d v H2 r j b hh k => ?_
  obtain ⟨ds, rfl, k⟩ := k
  obtain ⟨p, xs, rfl, _, hp, hL⟩ : ∃ p xs, v = .ref p ∧ ¬ _ ∧ H2 p = some (.lst xs) ∧ HasL _ H2 ds xs := hh
  refine ⟨p, xs, rfl, .inl ⟨SqL.of hp, fun l hl => ?_⟩⟩
  have r2 : R C.M H2 (upd H2 l (.tup xs)) := R.new hl
  exact q _ (.tup ds) _ _ (r.trans r2) (j.new hl) (b.new hl) ⟨l, xs, rfl, upd_same, hL.go j r2⟩ k
/-- a def that draws -/
theorem y_call {k : Nat} {F : Md → Int → List D → (Int → D → Prop) → Prop} (g : FnY X.prog X.w X.K X.mg X.base x k F) (hr : Room k X.A) (h : YA X C n G (e :: es) fun n' ds => F C.M n' ds fun n2 d => imm d = true ∧ K n2 d) (hg : Gl X x := by rfl) (hdb : (x == ("__debug__" : Str)) = false := by decide)
    (he : starEach (e :: es) X.env = (false, eval e X.env) :: starEach es X.env := by rfl) (hpl : (backTo pos (starEach es X.env)).any (·.1) = false := by rfl) : Y X C n G (.Call (.Name x p) (e :: es) [] pos) K := fun A σ H E B Q q => by
  obtain ⟨f, fd, ps, ok, gm, kp, bS⟩ := g.ex
  refine toE (pe_call ok hr hg gm kp bS .nil pass0 pwA hdb he hpl) ?_
  refine h A σ H E B _ fun n' ds vs H1 r j b hh kF => ?_
  show spY F (vs ++ []) H1 Q E0
  rw [List.append_nil]
  exact ⟨C.M, n', ds, _, j, b, toML hh, kF, fun n2 d v H' r' j' b' hd hk => q n2 d v H' (r.trans r') j' b' (Has.immK (fun _ _ e => e) d v hk.1 hd) hk.2⟩
/-- a def that draws nothing -/
theorem y_old {k : Nat} {F : Md → List D → (D → Prop) → Prop} (g : Fn X x k F) (hr : Room k X.A) (h : YA X C n G (e :: es) fun n' ds => F (m0 C.M) ds fun d => imm d = true ∧ K n' d) (hg : Gl X x := by rfl) (hdb : (x == ("__debug__" : Str)) = false := by decide)
    (he : starEach (e :: es) X.env = (false, eval e X.env) :: starEach es X.env := by rfl) (hpl : (backTo pos (starEach es X.env)).any (·.1) = false := by rfl) : Y X C n G (.Call (.Name x p) (e :: es) [] pos) K := fun A σ H E B Q q => by
  obtain ⟨f, fd, ps, ok, gm, kp, bS⟩ := g.ex
  refine toE (pe_call ok hr hg gm kp bS .nil pass0 pwA hdb he hpl) ?_
  refine h A σ H E B _ fun n' ds vs H1 r j b hh kF => ?_
  show spF F (vs ++ []) H1 Q E0
  rw [List.append_nil]
  exact ⟨m0 C.M, ds, _, j.m0, HasL.keep (fun _ _ e => e) (fun a xs nn e => ⟨fun ⟨_, z⟩ => (by cases z), e⟩) ds vs hh, kF, fun d v H' r' j' hd hk => q n' d v H' (r.trans r'.ofm0) (j.ofm0 r' j') (b.keep r') (Has.immK (fun _ _ e => e) d v hk.1 hd) hk.2⟩
/-! tests -/
theorem yt_val (h : Y X C n G e fun n' d => ∃ z, d = .bl z ∧ KT n' z) (he : ∀ whole, isTrue e X.env whole = (do let v ← whole; standAt e.pos; holding [v] (truthy v)) := by intro _; rfl) : YT X C n G e KT := fun A σ H E B Q q =>
  toT (pt_val pwE he) (h A σ H E B _ fun n' d v H2 r j b hh k => by
    obtain ⟨z, rfl, k⟩ := k
    exact ⟨z, hh, q _ _ H2 r j b k⟩)
theorem yt_not (h : YT X C n G a fun n' z => KT n' (!z)) : YT X C n G (.UnaryOp .Not a pos) KT := fun A σ H E B Q q => toT (pt_not pwT) (h A σ H E B _ fun n' z H2 r j b k => q _ _ H2 r j b k)
end
end FL
end
section
set_option Elab.async false
set_option linter.all false
set_option maxRecDepth 100000
set_option pp.maxSteps 300
/-! Statements that draw. -/
namespace FL
open PySem PySem.Spec PyProof.Rows L2 FM
section
variable {X : Cx} {C : Cn} {n : Int} {G : List SD} {A : Nat → Addr} {σ : L2.St} {H : Hp} {K : Int → D → Prop} {KT : Int → Bool → Prop} {KA : Int → List D → Prop} {KS : KY} {a b c e tg : Expr} {es : List Expr} {st : Stmt} {sts body : List Stmt} {pos p : Pos} {x y : Str}
theorem yss_nn (h : 0 ≤ n → YSs X C n G sts KS) : YSs X C n G sts KS := fun A σ H E B D q => h B.1 A σ H E B D q
theorem yss_nil (k : KS.nx n G) : YSs X C n G [] KS := fun A σ H E B D q => toSs pss_nil (q.nx n G A σ H E B k)
theorem yss_cons (h : YS X C n G st { KS with nx := fun n' G' => YSs X C n' G' sts KS }) : YSs X C n G (st :: sts) KS := fun A σ H E B D q => toSs (pss_cons pwS pwSs) (h A σ H E B _ ⟨fun n' G' A' σ' H' E' B' k => k A' σ' H' E' B' D q, q.rt⟩)
theorem yss_one (h : YS X C n G st KS) : YSs X C n G [st] KS := fun A σ H E B D q => toSs (pss_one pwS) (h A σ H E B D q)
theorem yss_freeze (i : Nat) {ds : List D} (g : G[i]? = some (.own ds)) (h : YSs X C n (G.set i (.val (.lst ds))) sts KS) : YSs X C n G sts KS := fun A σ H E B D q => h A σ H (E.freeze g) B D q
theorem ys_set (i : Nat) {p2 : Pos} (h : Y X C n G e fun n' d => KS.nx n' (G.set i (.val d))) (hN : X.N.Nodup) (hi : X.N[i]? = some x := by rfl) (hx : Loc X.env.scope x := by first | exact Or.inl rfl | exact Or.inr rfl) (hs : swapsWith e (some (.Name x p2)) pos.line X.env = pure false := by rfl) (hf : X.fn x = true ∨ X.env.scope.names.lookup x = some .local := by first | exact .inl rfl | exact .inr rfl) :
    YS X C n G (.Assign [.Name x p2] e pos) KS := fun A σ H E B D q => toS (ps_set hN hi hx pwE hs hf) (h A σ H E B _ fun n' d v H2 r j b hh k => q.nx _ _ A _ _ ((E.go j r).val hh) b k)
theorem ys_setLst (i : Nat) {p2 p3 : Pos} (h : YA X C n G es fun n' ds => ds.length ≤ 1000 ∧ KS.nx n' (G.set i (.own ds))) (hN : X.N.Nodup) (hi : X.N[i]? = some x := by rfl) (hx : Loc X.env.scope x := by first | exact Or.inl rfl | exact Or.inr rfl) (hs : swapsWith (.List es p3) (some (.Name x p2)) pos.line X.env = pure false := by rfl) (hf : X.fn x = true ∨ X.env.scope.names.lookup x = some .local := by first | exact .inl rfl | exact .inr rfl) :
    YS X C n G (.Assign [.Name x p2] (.List es p3) pos) KS := fun A σ H E B D q => toS (ps_set hN hi hx (pe_lst pwA) hs hf) (h A σ H E B _ fun n' ds vs H2 r j b hh k => by
  have hl := HasL.len hh
  refine ⟨Nat.le_of_lt (small1000 (by omega)), fun p hp => ?_⟩
  obtain ⟨A', E'⟩ := (E.go j r).mkOwn (i := i) hp hh
  exact q.nx _ _ A' _ _ E' (b.new hp) k.2)
theorem wG_same {X : Cx} {tg : Expr} {v : V} {σ : L2.St} {H : Hp} : True := trivial
/-- targets change slots alone -/
def GT (X : Cx) (C : Cn) (G : List SD) (tg : Expr) (d : D) (KG : List SD → Prop) : Prop := ∀ A σ H v, Est C G A σ H → Has (Av C.M G A) H d v → ∀ Q : L2.St → Hp → Prop, (∀ G' σ', Est C G' A σ' H → (∀ p, Av C.M G' A p → Av C.M G A p) → KG G' → Q σ' H) → wG X tg v σ H Q
def GTs (X : Cx) (C : Cn) (G : List SD) (ts : List Expr) (ds : List D) (KG : List SD → Prop) : Prop := ∀ A σ H xs, Est C G A σ H → HasL (Av C.M G A) H ds xs → ∀ Q : L2.St → Hp → Prop, (∀ G' σ', Est C G' A σ' H → (∀ p, Av C.M G' A p → Av C.M G A p) → KG G' → Q σ' H) → wGs X ts xs σ H Q
theorem gt_name {KG : List SD → Prop} (j : Nat) {d : D} (k : KG (G.set j (.val d))) (hN : X.N.Nodup) (hi : X.N[j]? = some x := by rfl) (hx : Loc X.env.scope x := by first | exact Or.inl rfl | exact Or.inr rfl) (hf : X.fn x = true ∨ X.env.scope.names.lookup x = some .local := by first | exact .inl rfl | exact .inr rfl) : GT X C G (.Name x p) d KG :=
  fun A σ H v E hh Q q => toG (pg_name hN hi hx hf) (q _ _ (E.val hh) av_val k)
theorem gts_nil {KG : List SD → Prop} (k : KG G) : GTs X C G [] [] KG := fun A σ H xs E hh Q q => toGs pgs_nil ⟨hh, q _ _ E (fun _ z => z) k⟩
theorem gts_cons {KG : List SD → Prop} {d : D} {ds : List D} (h : GT X C G tg d fun G' => GTs X C G' es ds KG) (hs : (assignEach (tg :: es) X.env).map (·.2) = assign tg X.env :: (assignEach es X.env).map (·.2) := by rfl) : GTs X C G (tg :: es) (d :: ds) KG := fun A σ H xs E hh Q q => by
  obtain ⟨x, r, e, h1, h2⟩ : ∃ x r, xs = x :: r ∧ Has _ H d x ∧ HasL _ H ds r := hh
  refine toGs (pgs_cons pwG pwGs hs) ⟨x, r, e, ?_⟩
  refine h A σ H x E h1 _ fun G' σ' E' hav k => ?_
  exact k A σ' H r E' (HasL.keep (fun _ _ e => e) (fun a ys nn e => ⟨fun z => nn (hav _ z), e⟩) ds r h2) Q fun G2 σ2 E2 hav2 k2 => q G2 σ2 E2 (fun p z => hav p (hav2 p z)) k2
theorem gt_tup {KG : List SD → Prop} {ds : List D} {k : Nat} (h : GTs X C G es ds KG) (hl : ds.length = (assignEach es X.env).length) (hc : X.calm = true := by rfl) (hst : (assignEach es X.env).findIdx? (·.1) = none := by rfl) : GT X C G (.Tuple es k pos) (.tup ds) KG := fun A σ H v E hh Q q => by
  obtain ⟨a, xs, e, ha, hL⟩ : ∃ a xs, v = .ref a ∧ H a = some (.tup xs) ∧ HasL _ H ds xs := hh
  refine toG (pg_tup hc pwGs rfl hst) ⟨a, xs, e, SqT.of ha, by rw [HasL.len hL, hl], ?_⟩
  exact h A σ H xs E hL Q q
theorem ys_asg (h : Y X C n G e fun n' d => GT X C G tg d (KS.nx n')) (hs : swapsWithSole [tg] e pos.line X.env = pure false := by rfl) (hw : swappedStores [tg] e X.env = pure none := by rfl) (h1 : (assignEach [tg] X.env).map (·.2) = [assign tg X.env] := by rfl) : YS X C n G (.Assign [tg] e pos) KS := fun A σ H E B D q =>
  toS (ps_asg pwE pwG hs hw h1) (h A σ H E B _ fun n' d v H2 r j b hh k => k A σ H2 v (E.go j r) hh _ fun G' σ' E' _ k' => q.nx n' G' A σ' H2 E' b k')
theorem ys_par2P (i j : Nat) {px py pt p3 : Pos} {kt k2 : Nat} {pt2 : Pos} (h : Y X C n G b fun n' db => imm db = true ∧ KS.nx n' ((G.set i (.own [])).set j (.val db))) (hN : X.N.Nodup) (hi : X.N[i]? = some x := by rfl) (hj : X.N[j]? = some y := by rfl) (hij : i ≠ j := by decide)
    (hx : X.env.scope.names.lookup x = some .local := by rfl) (hy : X.env.scope.names.lookup y = some .local := by rfl) (hc : X.calm = true := by rfl) (hea : starEach [.List [] p3, b] X.env = (false, eval (.List [] p3) X.env) :: starEach [b] X.env := by rfl) (heb : starEach [b] X.env = (false, eval b X.env) :: starEach [] X.env := by rfl)
    (hw : swappedStores [.Tuple [.Name x px, .Name y py] kt pt] (.Tuple [.List [] p3, b] k2 pt2) X.env = pure (some [x, y]) := by rfl) (hs : swapsWithSole [.Tuple [.Name x px, .Name y py] kt pt] (.Tuple [.List [] p3, b] k2 pt2) pos.line X.env = pure false := by rfl) :
    YS X C n G (.Assign [.Tuple [.Name x px, .Name y py] kt pt] (.Tuple [.List [] p3, b] k2 pt2) pos) KS := fun A σ H E B D q => by
  refine toS (ps_par hc hN hi hj hij hx hy (pa_cons (pe_lst pa_nil) (pa_cons pwE pa_nil heb) hea) hw hs) ?_
  refine ⟨Nat.zero_le _, fun p hp => ?_⟩
  have r0 : R C.M H (upd H p (.lst [])) := R.new hp
  refine h A σ (upd H p (.lst [])) (E.go (E.j.new hp) r0) (B.new hp) _ fun n' db w H2 r2 j2 b2 h2 k2 => ?_
  refine ⟨.ref p, w, rfl, ?_⟩
  have hpb : ¬ IsB C.M p := fun z => by
    obtain ⟨xs, q⟩ := E.j.bagL z
    rw [hp] at q; cases q
  obtain ⟨A', E'⟩ := E.mkNil (i := i) hp (r0.trans r2) j2 (r2.kp p _ (fun _ z => by cases z) hpb upd_same)
  exact q.nx _ _ A' _ _ (E'.val (i := j) (Has.immK (fun _ _ e => e) db w k2.1 h2)) b2 k2.2
theorem ys_ret (h : Y X C n G e KS.rt) : YS X C n G (.Return (some e) pos) KS := fun A σ H E B D q => toS (ps_ret pwE) (h A σ H E B _ fun n' d v H2 r j b hh k => q.rt n' d v H2 j (E.r.trans r) b (toM hh) k)
theorem ys_if (h : YT X C n G c fun n' z => (z = true → YSs X C n' G sts KS) ∧ (z = false → YSs X C n' G body KS)) : YS X C n G (.If c sts body pos) KS := fun A σ H E B D q => toS (ps_if pwT pwSs pwSs) (h A σ H E B _ fun n' z H2 r j b k => by
  cases z with
  | true => exact iteT (k.1 rfl A σ H2 (E.go j r) b D q)
  | false => exact iteF (k.2 rfl A σ H2 (E.go j r) b D q))
theorem ys_app (i : Nat) {ds : List D} {p1 p2 p3 : Pos} (g : G[i]? = some (.own ds)) (hl : ds.length ≤ 1000000) (h : Y X C n G e fun n' d => KS.nx n' (G.set i (.own (ds ++ [d])))) (hN : X.N[i]? = some x := by rfl) (hv : Vis X.env.scope x := by first | exact Or.inl rfl | exact Or.inr (Or.inl rfl) | exact Or.inr (Or.inr rfl)) (hd : (x == ("__debug__" : Str)) = false := by decide)
    (hcd : (x == ("__classdict__" : Str)) = false := by decide) (he : starEach [e] X.env = (false, eval e X.env) :: starEach [] X.env := by rfl)
    (hfew : ((backTo p3 (starEach [e] X.env)).all (fun x => !x.1) && (backToKw p3 (keywordEach [] X.env)).all (fun x => x.1.isSome) && decide (([e] : List Expr).length + ([] : List Keyword).length + (if ([] : List Keyword).isEmpty then 0 else 1) < 30)) = true := by rfl)
    (hpl : (backTo p3 (starEach [] X.env)).any (·.1) = false := by rfl)
    (hbase : attributeBase (.Name x p1) "append" X.env (eval (.Name x p1) X.env) = eval (.Name x p1) X.env := by rfl) (hline : (p2.endLine == p3.line) = true := by rfl)
    (hs : swapsWith (.Call (.Attribute (.Name x p1) "append" p2) [e] [] p3) none pos.line X.env = pure false := by rfl) : YS X C n G (.Expr (.Call (.Attribute (.Name x p1) "append" p2) [e] [] p3) pos) KS := fun A σ H E B D q => by
  refine toS (ps_expr (pe_bm PySem.F.plainAttrs_list PySem.F.slot_list_append PySem.F.type_list_append mt_append (pv i hN hv hd hcd) (pa_cons pwE pa_nil he) hbase hfew hline he hpl) hs) ?_
  obtain ⟨e1, xs, e2, hL⟩ := E.sl i _ g
  refine ⟨_, e1, .inl ⟨rfl, xs, SqL.of e2⟩, ?_⟩
  refine h A σ H E B _ fun n' d v H2 r j b hh k => ?_
  have E2 := E.go j r
  obtain ⟨_, xs2, e3, hL2⟩ := E2.sl i _ g
  have hlen := HasL.len hL2
  refine ⟨A i, xs2, v, rfl, rfl, e3, Nat.lt_of_le_of_lt (show xs2.length ≤ 1000000 by omega) (by decide), ?_⟩
  refine q.nx _ _ A _ _ (E2.setOwn g (HasL.app hL2 (HasL.one hh))) ⟨b.1, fun bb cc ee => ?_⟩ k
  obtain ⟨x0, s0, k0, e4, l4⟩ := b.2 bb cc ee
  refine ⟨x0, s0, k0, ?_, l4⟩
  rw [upd_ne fun z => E2.nb (.inl ⟨ds, g⟩) (by rw [← z]; exact ⟨cc, ee⟩)]
  exact e4
theorem y_ixOwn (i : Nat) {ds : List D} {p1 : Pos} (g : G[i]? = some (.own ds)) (h : Y X C n G b fun n' db => ∃ j d, db = .int j ∧ L2.atI ds j = some d ∧ K n' d) (hs : PlainIx b := by exact fun _ _ => rfl) (hN : X.N[i]? = some x := by rfl) (hv : Vis X.env.scope x := by first | exact Or.inl rfl | exact Or.inr (Or.inl rfl) | exact Or.inr (Or.inr rfl)) (hd : (x == ("__debug__" : Str)) = false := by decide)
    (hcd : (x == ("__classdict__" : Str)) = false := by decide) : Y X C n G (.Subscript (.Name x p1) b pos) K := fun A σ H E B Q q => by
  refine toE (pe_ix ix_list (pv i hN hv hd hcd) pwE hs) ?_
  obtain ⟨e1, _⟩ := E.sl i _ g
  refine ⟨_, e1, ?_⟩
  refine h A σ H E B _ fun n' db v H2 r j b hh k => ?_
  obtain ⟨jj, d, rfl, e, k⟩ := k
  obtain ⟨_, xs2, e3, hL2⟩ := (E.go j r).sl i _ g
  obtain ⟨z, e4, hz⟩ := HasL.atI hL2 e
  exact ⟨A i, xs2, jj, z, rfl, hh, SqL.of e3, e4, q _ d z H2 r j b hz k⟩
theorem yt_neNilOwn (i : Nat) {ps : List (Int × Int)} {p1 p2 : Pos} (g : G[i]? = some (.own (prs ps))) (hu : X.A.units + 64 < cLine) (k : KT n (!ps.isEmpty)) (hN : X.N[i]? = some x := by rfl) (hv : Vis X.env.scope x := by first | exact Or.inl rfl | exact Or.inr (Or.inl rfl) | exact Or.inr (Or.inr rfl)) (hd : (x == ("__debug__" : Str)) = false := by decide)
    (hcd : (x == ("__classdict__" : Str)) = false := by decide) : YT X C n G (.Compare (.Name x p1) [.NotEq] [.List [] p2] pos) KT := fun A σ H E B Q q => by
  refine toT (pt_cmpR (op_neD hu) (pv i hN hv hd hcd) (pe_lst pa_nil) (nomark _)) ?_
  obtain ⟨e1, xs, e2, hL⟩ := E.sl i _ g
  refine ⟨_, e1, Nat.zero_le _, fun l hl => ?_⟩
  have r2 : R C.M H (upd H l (.lst [])) := R.new hl
  refine ⟨.list (pyPrs ps), .list [], .lst (SqL.of (by rw [upd_ne (ne_of_none e2 hl)]; exact e2)) (dp_prs (hL.go E.j r2)), .lst (SqL.of upd_same) .nil, shaped_prs ps, shaped_prs [], _, rfl, ?_⟩
  rw [eqv_prs]
  exact q _ _ _ r2 (E.j.new hl) (B.new hl) k
theorem yt_gt (h : Y X C n G a fun n1 da => Y X C n1 G b fun n2 db => ∃ i j, da = .int i ∧ db = .int j ∧ KT n2 (decide (j < i))) : YT X C n G (.Compare a [.Gt] [b] pos) KT := fun A σ H E B Q q => by
  refine toT (pt_cmpR op_gt pwE pwE (nomark _)) ?_
  refine h A σ H E B _ fun n1 da x H1 r1 j1 b1 h1 k1 => ?_
  refine k1 A σ H1 (E.go j1 r1) b1 _ fun n2 db y H2 r2 j2 b2 h2 k2 => ?_
  obtain ⟨i, j, rfl, rfl, k⟩ := k2
  exact ⟨i, j, h1, h2, _, rfl, q _ _ H2 (r1.trans r2) j2 b2 k⟩
/-- for name in range(e): the number drawn at turn i is at most m i -/
theorem ys_for1 (i0 : Nat) (hm : X.mg "range" = none) {p1 p2 p3 p4 : Pos} (h : Y X C n G e fun n' d => ∃ N : Nat, d = .int N ∧ N ≤ 1000000 ∧ ∃ I : Nat → Int → List SD → Prop, I 0 n' G ∧ (∀ i n' G', i < N → I i n' G' → YSs X C n' (G'.set i0 (.val (.int i))) body { KS with nx := fun n2 G2 => I (i + 1) n2 G2 }) ∧ ∀ n' G', I N n' G' → KS.nx n' G') (hN : X.N.Nodup)
    (hi : X.N[i0]? = some x := by rfl) (hx : Loc X.env.scope x := by first | exact Or.inl rfl | exact Or.inr rfl) (hf : X.fn x = true ∨ X.env.scope.names.lookup x = some .local := by first | exact .inl rfl | exact .inr rfl) (hg : Gl X "range" := by rfl) (hs0 : starEach [e] X.env = [(false, eval e X.env)] := by rfl) (hs' : starEach [e] X.env = (false, eval e X.env) :: starEach [] X.env := by rfl)
    (hp : PassesOwn (model X.prog X.w) X.A X.env X.xe := by exact PassesOwn.never) (hc : X.calm = true := by rfl) (hs : ∀ x, foldedSetIterable (.Call (.Name "range" p1) [e] [] p2) X.env x = pure x := by intro _; rfl) : YS X C n G (.For (.Name x p3) (.Call (.Name "range" p1) [e] [] p2) body [] p4) KS := fun A σ H E B D q => by
  refine toS (ps_for hp hc (pi_range1 hg hm (pa_cons pwE pa_nil hs') hs0) pwG pwSs hs) (h A σ H E B _ fun n' d v H2 r j b hh k => ?_)
  obtain ⟨N, rfl, hN1, I, i1, turn, done⟩ := k
  obtain rfl : v = .int N := hh
  refine ⟨N, rfl, by omega, by omega, ?_⟩
  refine ⟨fun i m σ H => i + m = N ∧ ∃ n' G A, Est C G A σ H ∧ KB C.M H n' ∧ I i n' G, ⟨N, by omega, n', G, A, E.go j r, b, i1⟩, fun i m σ H ⟨em, n', G', A', E', b', i'⟩ => ?_⟩
  by_cases hlt : i < N
  · refine .inr ⟨by show i < (N : Int).toNat; omega, fun σ2 H3 => ∃ n' G A, Est C G A σ2 H3 ∧ KB C.M H3 n' ∧ I (i + 1) n' G, fun σ2 H3 h3 => ⟨m - 1, by omega, by omega, h3⟩, fun x H3 y => ?_⟩
    obtain ⟨rfl, rfl⟩ := y
    refine toG (pg_name hN hi hx hf) ?_
    refine turn i n' G' hlt i' A' _ _ (by rw [Int.zero_add]; exact E'.val hasI) b' _ ⟨fun n5 G5 A5 σ5 H5 E5 b5 k5 => ⟨n5, G5, A5, E5, b5, k5⟩, q.rt⟩
  · obtain rfl : i = N := by omega
    exact .inl ⟨by show (i : Int).toNat ≤ i; omega, q.nx n' G' A' σ H E' b' (done n' G' i')⟩
end
section
variable {P : Program} {w : World} {K : PySem.W.Frag} {mg : Str → Option Value} {base : Heap}
theorem fnY {x : Str} {st : Stmt} {N ps : List Str} {k : Nat} {F : Md → Int → List D → (Int → D → Prop) → Prop} (d : Df K mg x st ps) (S : FnScope N ps (defScope st)) (hlen : ∀ M n ds Kp, F M n ds Kp → ds.length = ps.length)
    (hb : ∀ f cdv A outer s H E M n Kp ds, Room k (A.deeper (envOfC x (defScope st) s.heap.objs.size f cdv)) → F M n ds Kp → YSs (XC P w K mg base N x st f cdv A outer s H E) ⟨M, H, []⟩ n (startD N ds) (defBody st) { nx := fun _ _ => False, rt := Kp }) : FnY P w K mg base x (k + 1) F := by
  obtain ⟨f, fd, Fu, gm, bS⟩ := d.ex
  refine ⟨f, fd, ps, Fu.ok S (fun vs H Q E h => ?_) (fun cdv A outer s H vs Q E hr h => ?_), gm, Fu.kp, bS⟩
  · obtain ⟨M, n, ds, Kp, _, _, hL, hF, _⟩ := h
    rw [HasL.len hL, hlen M n ds Kp hF]
  · obtain ⟨M, n, ds, Kp, j, b, hL, hF, q⟩ := h
    exact ⟨_, pwSs, hb f cdv A outer s H E M n Kp ds hr hF _ _ H (start_est j hL) b _ ⟨fun n' G A σ H' E' _ k => k.elim, fun n' d v H' j' r' b' hd hk => q n' d v H' r' j' b' hd hk⟩⟩
end
end FL
end
section
set_option Elab.async false
set_option linter.all false
set_option maxRecDepth 100000
set_option pp.maxSteps 300
/-! A comprehension that draws; the bag's own. -/
namespace FL
open PySem PySem.Spec PyProof.Rows L2 FM
section
variable {X : Cx} {C : Cn} {n : Int} {G : List SD} {K : Int → D → Prop} {e elt : Expr} {pos p : Pos} {x y : Str} {scope : Scope}
def YB (X : Cx) (scope : Scope) (C : Cn) (n : Int) (G : List SD) (e : Expr) (K : Int → D → Prop) : Prop := ∀ s H c cl fp, Y (X.blk s H scope (compEnvC scope cl c X.env) fp) C n G e K
theorem y_lc (i0 : Nat) {p1 p2 p3 : Pos} (ok : BlkOk X.N X.env.scope scope [(x, i0)]) (hN : X.N.Nodup) (hm : X.mg "range" = none)
    (h : Y X C n G e fun n0 d => ∃ N m : Nat, d = .int N ∧ N ≤ 1000 ∧ ∃ P : Nat → D → Prop, (∀ i d, P i d → imm d = true) ∧ (∀ (i : Nat) (n' : Int), i < N → n' ≤ n0 + i * m → YB X scope C n' ((G.set i0 .no).set i0 (.val (.int i))) elt fun n2 d => P i d ∧ n2 ≤ n' + m) ∧
      ∀ n2 ds, n2 ≤ n0 + N * m → ds.length = N → (∀ i d, ds[i]? = some d → P i d) → K n2 (.lst ds))
    (hc : X.calm = true := by rfl) (hs : ∀ x, foldedSetIterable (.Call (.Name "range" p1) [e] [] p2) X.env x = pure x := by intro _; rfl) (hg : Gl X "range" := by rfl) (hs0 : starEach [e] X.env = [(false, eval e X.env)] := by rfl) (hs' : starEach [e] X.env = (false, eval e X.env) :: starEach [] X.env := by rfl)
    (hi : X.N[i0]? = some x := by rfl) (hxl : ∀ s H c cl fp, Loc (X.blk s H scope (compEnvC scope cl c X.env) fp).env.scope x := by first | exact fun _ _ _ _ _ => Or.inl rfl | exact fun _ _ _ _ _ => Or.inr rfl) (hf : ∀ s H c cl fp, (X.blk s H scope (compEnvC scope cl c X.env) fp).fn x = true ∨ (X.blk s H scope (compEnvC scope cl c X.env) fp).env.scope.names.lookup x = some .local := by first | exact fun _ _ _ _ _ => Or.inl rfl | exact fun _ _ _ _ _ => Or.inr rfl) :
    Y X C n G (.ListComp elt [⟨.Name x p3, .Call (.Name "range" p1) [e] [] p2, [], 0⟩] scope pos) K := fun A σ H E B Q q => by
  refine toE (pe_lc hc hN (pi_range1 hg hm (pa_cons pwE pa_nil hs') hs0) ok (g := fun v σ H Q => ∀ s0 H0 c cl fp, wG (X.blk s0 H0 scope (compEnvC scope cl c X.env) fp) (.Name x p3) v σ H Q) (fun s0 H0 c cl fp => ⟨fun pins s σ H v u Q I r hh => hh s0 H0 c cl fp pins s u I r⟩) (fun _ _ _ _ _ => pts_nil)
    (te := fun σ H Q => ∀ s0 H0 c cl fp, wE (X.blk s0 H0 scope (compEnvC scope cl c X.env) fp) elt σ H Q) (fun s0 H0 c cl fp => ⟨fun pins s σ H Q I hh => hh s0 H0 c cl fp pins s I⟩) hs) ?_
  refine h A σ H E B _ fun n0 d v H2 r j b hh k => ?_
  obtain ⟨N, m, rfl, hN1, P, him, turn, done⟩ := k
  obtain rfl : v = .int N := hh
  refine ⟨N, rfl, by omega, by omega, ?_⟩
  intro L hL
  have E2 := E.go j r
  have nAv : ¬ Av C.M G A L := E2.avN hL
  have frL : Fr H2 L := .inl hL
  refine ⟨fun i mm H3 => i + mm = N ∧ R C.M H2 H3 ∧ J C.M H3 ∧ ∃ n3 ds acc, KB C.M H3 n3 ∧ n3 ≤ n0 + i * m ∧ H3 L = some (.lst acc) ∧ HasL (Av C.M G A) H3 ds acc ∧ ds.length = i ∧ ∀ i d, ds[i]? = some d → P i d,
    ⟨N, by omega, R.new hL, j.new hL, n0, [], [], b.new hL, by simp, upd_same, rfl, rfl, fun i d e => by simp at e⟩, fun i mm H3 ⟨em, r3, j3, n3, ds, acc, b3, l3, e1, hd, hlen, hp⟩ => ?_⟩
  by_cases hlt : i < N
  · refine .inr ⟨by show i < (N : Int).toNat; omega, fun H5 => R C.M H2 H5 ∧ J C.M H5 ∧ ∃ n3 ds acc, KB C.M H5 n3 ∧ n3 ≤ n0 + ((i + 1 : Nat) : Int) * m ∧ H5 L = some (.lst acc) ∧ HasL (Av C.M G A) H5 ds acc ∧ ds.length = i + 1 ∧ ∀ i d, ds[i]? = some d → P i d, fun H5 h5 => ⟨mm - 1, by omega, by omega, h5⟩, fun xx H4 y => ?_⟩
    obtain ⟨rfl, rfl⟩ := y
    have E4 : Est C (G.set i0 .no) A (wipe σ [i0]) H4 := (E2.go j3 r3).no
    intro s0 H0 c cl fp
    refine toG (pg_name hN hi (hxl s0 H0 c cl fp) (hf s0 H0 c cl fp)) ?_
    refine ⟨(wipe_set (σ := wipe σ [i0]) (vs := [i0]) List.mem_cons_self).trans (wipe_wipe fun u hu => hu), ?_⟩
    intro s0 H0 c cl fp
    refine turn i n3 hlt l3 s0 H0 c cl fp A _ H4 (by rw [Int.zero_add]; exact E4.val hasI) b3 _ fun n6 d v H6 r6 j6 b6 h6 ⟨k6, l6⟩ => ?_
    have nb : ¬ IsB C.M L := fun z => nAv (.inl z)
    have e6 : H6 L = some (.lst acc) := r6.kp L _ (fun _ z => by cases z) nb e1
    have hd6 : HasL (Av C.M G A) H6 ds acc := hd.go (C := C) j3 r6
    have hacc := HasL.len hd6
    have r26 : R C.M H2 H6 := r3.trans r6
    refine ⟨acc, e6, Nat.lt_of_lt_of_le (show acc.length < 1000000 by omega) (by decide), r26.mut frL, J.mut (H0 := H2) j j6 frL e6 (.inl ⟨_, rfl⟩), n6, ds ++ [d], acc ++ [v], ⟨b6.1, fun bb cc ee => ?_⟩, ?_, upd_same, ?_, by rw [List.length_append, hlen]; rfl, fun i' d' e' => ?_⟩
    · obtain ⟨x0, s0, k0, e4, l4⟩ := b6.2 bb cc ee
      exact ⟨x0, s0, k0, by rw [upd_ne fun z => nb (by rw [← z]; exact ⟨cc, ee⟩)]; exact e4, l4⟩
    · have : ((i + 1 : Nat) : Int) * m = i * m + m := by grind
      omega
    · have ht : ∀ a xs, H6 a = some (.tup xs) → upd H6 L (.lst (acc ++ [v])) a = some (.tup xs) := fun a xs e => by
        rw [upd_ne fun z => ?_]
        · exact e
        · rw [z, e6] at e; cases e
      refine HasL.app (HasL.immK ht ds acc (immL_iff.mpr fun d' hd' => ?_) hd6) (HasL.one (Has.immK ht d v (him i d k6) h6))
      obtain ⟨i', e'⟩ := List.getElem?_of_mem hd'
      exact him i' d' (hp i' d' e')
    · by_cases q : i' < ds.length
      · rw [List.getElem?_append_left q] at e'
        exact hp i' d' e'
      · rw [List.getElem?_append_right (by omega)] at e'
        have e0 : i' - ds.length = 0 := by
          have := (List.getElem?_eq_some_iff.mp e').1
          simp only [List.length_singleton] at this
          omega
        rw [e0] at e'
        cases e'
        obtain rfl : i' = i := by omega
        exact k6
  · obtain rfl : i = N := by omega
    exact .inl ⟨by show (i : Int).toNat ≤ i; omega, q n3 (.lst ds) _ H3 (r.trans r3) j3 b3 ⟨L, acc, rfl, nAv, e1, hd⟩ (done n3 ds l3 hlen hp)⟩
end
end FL
end
section
set_option Elab.async false
set_option linter.all false
set_option maxRecDepth 100000
set_option pp.maxSteps 300
/-! _law_take. -/
namespace FL
open PySem PySem.Spec PyProof.Rows L2 FM
section
variable {X : Cx} {C : Cn} {G : List SD} {K : D → Prop} {KS : KD} {a b c e tg : Expr} {es : List Expr} {st : Stmt} {sts body : List Stmt} {pos p : Pos} {x y : Str}
theorem HasL.set {N : Addr → Prop} {H : Hp} {ds : List D} {xs : List V} {j : Nat} {d : D} {v : V} (h : HasL N H ds xs) (hd : Has N H d v) : HasL N H (ds.set j d) (xs.set j v) :=
  HasL.of (by rw [List.length_set, List.length_set, HasL.len h]) fun i d' x e1 e2 => by
    have hl := HasL.len h
    by_cases q : i = j
    · subst q
      have l1 := (List.getElem?_eq_some_iff.mp e1).1
      have l2 := (List.getElem?_eq_some_iff.mp e2).1
      rw [List.length_set] at l1 l2
      rw [List.getElem?_set_self l1] at e1
      rw [List.getElem?_set_self l2] at e2
      cases e1
      cases e2
      exact hd
    · rw [List.getElem?_set_ne (Ne.symm q)] at e1 e2
      obtain ⟨z, e3, hz⟩ := HasL.get h e1
      rw [e3] at e2; cases e2; exact hz
theorem ixN_nat {n j : Nat} (h : j < n) : ixN n (j : Int) = some j := by
  unfold ixN
  rw [if_pos (by omega)]
  rw [if_pos (by omega)]
  simp
def rGetL (K : PySem.W.Frag) : V → V → Hp → VK → Prop := fun o i H Q => ∃ p xs j v, o = .ref p ∧ i = .int ((j : Nat) : Int) ∧ SqL K H p xs ∧ xs[j]? = some v ∧ Q v H
theorem get_list : PGet X (rGetL X.K) := by
  rintro pins s σ H o i ov iv Q I ro ri ⟨p, xs, j, v, rfl, rfl, hq, hj, q⟩
  obtain rfl : ov = Value.ref p := ro
  obtain ⟨t, rfl⟩ := ri
  obtain ⟨vals, r, pl, hz⟩ := I.list hq
  obtain ⟨u, hu, ru⟩ := r.get hj
  have hl := r.length
  have hn := line63
  have hj2 := (List.getElem?_eq_some_iff.mp hj).1
  exact wpAny_getItem_list pl.isList (by omega) (by omega) (by simpa using hu) ⟨v, H, I, ru, q⟩
theorem cut_from (xs : List V) (k : Nat) : cutV xs (some (k : Int)) none = xs.drop k := by
  unfold cutV
  rw [show HT.sIx xs.length 0 (some (k : Int)) = min k xs.length from HT.sIx_nat xs.length 0 k, HT.sIx_none]
  by_cases h : k ≤ xs.length
  · rw [Nat.min_eq_left h]
    exact List.take_of_length_le (by rw [List.length_drop]; exact Nat.le_refl _)
  · rw [Nat.min_eq_right (by omega), List.drop_of_length_le (show xs.length ≤ k by omega), List.drop_of_length_le (Nat.le_refl _)]
    simp
end
section
variable {X : Cx} {C : Cn} {n : Int} {G : List SD} {K : Int → D → Prop} {KT : Int → Bool → Prop} {KS : KY} {a b c e : Expr} {pos p : Pos} {x y : Str}
theorem y_mod (h : Y X C n G a fun n1 da => Y X C n1 G b fun n2 db => ∃ i j, da = .int i ∧ db = .int j ∧ 0 < j ∧ K n2 (.int (i % j))) : Y X C n G (.BinOp a .Mod b pos) K := y_opI op_mod h
theorem y_div (h : Y X C n G a fun n1 da => Y X C n1 G b fun n2 db => ∃ i j, da = .int i ∧ db = .int j ∧ DivOk i j ∧ K n2 (.int (i / j))) : Y X C n G (.BinOp a .FloorDiv b pos) K := y_opI op_divB h
theorem y_pow (h : Y X C n G a fun n1 da => Y X C n1 G b fun n2 db => ∃ i j, da = .int i ∧ db = .int j ∧ CPow i j ∧ K n2 (.int (i ^ j.toNat))) : Y X C n G (.BinOp a .Pow b pos) K := y_opI op_pow h
theorem y_toint (hm : X.mg "int" = none) (h : Y X C n G e fun n1 d => ∃ i, d = .int i ∧ K n1 (.int i)) (hg : Gl X "int" := by rfl) (he : starEach [e] X.env = (false, eval e X.env) :: starEach [] X.env := by rfl) (hpl : (backTo pos (starEach [] X.env)).any (·.1) = false := by rfl) : Y X C n G (.Call (.Name "int" p) [e] [] pos) K := fun A σ H E B Q q => by
  refine toE (pe_callTy call_int1 hg hm (by decide +kernel) (pa_cons pwE pa_nil he) (by decide) (by decide) he hpl) ?_
  refine h A σ H E B _ fun n1 d v H2 r j b hh k => ?_
  obtain ⟨i, rfl, k⟩ := k
  obtain rfl : v = .int i := hh
  exact .inl ⟨i, rfl, q _ _ _ H2 r j b hasI k⟩
theorem y_catL (h : Y X C n G a fun n1 da => Y X C n1 G b fun n2 db => ∃ ds es, da = .lst ds ∧ db = .lst es ∧ ds.length + es.length ≤ 1000 ∧ K n2 (.lst (ds ++ es))) : Y X C n G (.BinOp a .Add b pos) K :=
  y_two (pe_op op_cat pwE pwE) h fun A H n' x y da db Q j _ hx hy k q av => by
    obtain ⟨ds, es, rfl, rfl, hl, k⟩ := k
    obtain ⟨p, xs, rfl, _, hp, hL⟩ : ∃ p xs, x = .ref p ∧ ¬ _ ∧ H p = some (.lst xs) ∧ HasL _ H ds xs := hx
    obtain ⟨p', ys, rfl, _, hp', hL'⟩ : ∃ p xs, y = .ref p ∧ ¬ _ ∧ H p = some (.lst xs) ∧ HasL _ H es xs := hy
    refine ⟨p, p', xs, ys, rfl, rfl, hp, hp', by rw [HasL.len hL, HasL.len hL']; exact Nat.le_of_lt (small1000 hl), fun l hl => ?_⟩
    have r2 : R (m0 C.M) H (upd H l (.lst (xs ++ ys))) := R.new hl
    exact q (.lst (ds ++ es)) _ _ r2 (j.new hl) ⟨l, _, rfl, av l hl, upd_same, HasL.app (hL.go j r2.ofm0) (hL'.go j r2.ofm0)⟩ k
theorem yt_two {op : CmpOp} {g : Int → Int → Bool} (ho : OpR X (compareOp op) (rI0 fun i j => .bl (g i j))) (n1 : op ≠ .In) (n2 : op ≠ .NotIn) (h : Y X C n G a fun n1 da => Y X C n1 G b fun n2 db => ∃ i j, da = .int i ∧ db = .int j ∧ KT n2 (g i j)) : YT X C n G (.Compare a [op] [b] pos) KT := fun A σ H E B Q q => by
  refine toT (pt_cmpR ho pwE pwE (nomark _ n1 n2)) ?_
  refine h A σ H E B _ fun n1 da x H1 r1 j1 b1 h1 k1 => ?_
  refine k1 A σ H1 (E.go j1 r1) b1 _ fun n2 db y H2 r2 j2 b2 h2 k2 => ?_
  obtain ⟨i, j, rfl, rfl, k⟩ := k2
  exact ⟨i, j, h1, h2, _, rfl, q _ _ H2 (r1.trans r2) j2 b2 k⟩
/-! ### the bag -/
theorem y_bag (i j : Nat) {bb cc : Addr} {jj : Nat} {p1 p2 : Pos} (hB : C.M.B = some (bb, cc)) (g : G[i]? = some (.val (.ref bb))) (k : ∀ x s kk : Int, 0 ≤ x → 0 ≤ s → s < 2147483647 → 0 ≤ kk → kk ≤ n → ∃ d, ([.int x, .int s, .int kk, .ref cc] : List D)[j]? = some d ∧ K n d) (hN : X.N[i]? = some x := by rfl) (hv : Vis X.env.scope x := by first | exact Or.inl rfl | exact Or.inr (Or.inl rfl) | exact Or.inr (Or.inr rfl)) (hd : (x == ("__debug__" : Str)) = false := by decide)
    (hcd : (x == ("__classdict__" : Str)) = false := by decide) (hs : PlainIx (.Constant (.int j) jj p2) := by exact fun _ _ => rfl) : Y X C n G (.Subscript (.Name x p1) (.Constant (.int j) jj p2) pos) K := fun A σ H E B Q q => by
  refine toE (pe_ix ix_list (pv i hN hv hd hcd) pe_int hs) ?_
  obtain ⟨v, e1, hv⟩ := E.sl i _ g
  obtain rfl : v = .ref bb := hv
  obtain ⟨xx, s, kk, cs, hb, a1, a2, a3, a4, a5⟩ := E.j.1 bb cc hB
  obtain ⟨x', s', k', hb', l⟩ := B.2 bb cc hB
  rw [hb] at hb'
  cases hb'
  obtain ⟨d, ed, kd⟩ := k xx s kk a1 a2 a3 a4 l
  have hL : HasL (Av C.M G A) H [.int xx, .int s, .int kk, .ref cc] [.int xx, .int s, .int kk, .ref cc] := ⟨_, _, rfl, hasI, _, _, rfl, hasI, _, _, rfl, hasI, _, _, rfl, hasR, rfl⟩
  obtain ⟨v, ev, hv⟩ := HasL.get hL ed
  exact ⟨_, e1, bb, _, (j : Int), v, rfl, rfl, SqL.of hb, atI_nat ev, q n d v H R.refl E.j B hv kd⟩
theorem y_cells {bb cc : Addr} {p2 : Pos} (hB : C.M.B = some (bb, cc)) (h : Y X C n G a fun n1 da => Y X C n1 G b fun n2 db => da = .ref cc ∧ ∃ k : Int, db = .int k ∧ 0 ≤ k ∧ ∀ l : List Int, (∀ z ∈ l, 0 ≤ z) → l.length ≤ 500 → K n2 (.lst (intD l))) : Y X C n G (.Subscript a (.Slice (some b) none none p2) pos) K := fun A σ H E B Q q => by
  refine toE (pe_slice sl_list pwE (po_some pwE) po_none) (h A σ H E B _ fun n1 da v H1 r1 j1 b1 h1 k1 => ?_)
  refine k1 A σ H1 (E.go j1 r1) b1 _ fun n2 db w H2 r2 j2 b2 h2 k2 => ?_
  obtain ⟨rfl, k, rfl, k0, kk⟩ := k2
  obtain rfl : v = .ref cc := h1
  obtain rfl : w = .int k := h2
  obtain ⟨xx, s, k9, cs, hb, a1, a2, a3, a4, hc, c0, cl⟩ := j2.1 bb cc hB
  refine ⟨k, rfl, cc, _, rfl, SqL.of hc, fun l hl => ?_⟩
  rw [show k = ((k.toNat : Nat) : Int) by omega, cut_from]
  have r3 : R C.M H2 (upd H2 l (.lst ((cs.map V.int).drop k.toNat))) := R.new hl
  refine q n2 (.lst (intD (cs.drop k.toNat))) _ _ ((r1.trans r2).trans r3) (j2.new hl) (b2.new hl) ⟨l, _, rfl, ((E.go j1 r1).go j2 r2).avN hl, upd_same, ?_⟩ (kk _ (fun z hz => c0 z (List.mem_of_mem_drop hz)) (by rw [List.length_drop]; omega))
  rw [← List.map_drop]
  refine HasL.of (by unfold intD; simp) fun i d x e1 e2 => ?_
  unfold intD at e1
  rw [List.getElem?_map] at e1 e2
  cases hi : (cs.drop k.toNat)[i]? with
  | none => rw [hi] at e1; cases e1
  | some z =>
    rw [hi] at e1 e2
    cases e1
    cases e2
    exact hasI
/-- the bag written -/
theorem bag_write {M : Md} {H : Hp} {bb cc : Addr} {x s k x' s' k' m : Int} (hB : M.B = some (bb, cc)) (j : J M H) (hb : H bb = some (.lst [.int x, .int s, .int k, .ref cc])) (a1 : 0 ≤ x') (a2 : 0 ≤ s') (a3 : s' < 2147483647) (a4 : 0 ≤ k') (a5 : k' ≤ m) :
    R M H (upd H bb (.lst [.int x', .int s', .int k', .ref cc])) ∧ J M (upd H bb (.lst [.int x', .int s', .int k', .ref cc])) ∧ KB M (upd H bb (.lst [.int x', .int s', .int k', .ref cc])) m := by
  refine ⟨⟨fun a o _ nb e => ?_, fun a z => ?_⟩, ⟨fun b' c' e => ?_, tabs_keep j.2 fun b o n1 _ e => ?_⟩, by omega, fun b' c' e => ?_⟩
  · rw [upd_ne fun z => nb (by rw [z]; exact ⟨cc, hB⟩)]; exact e
  · by_cases q : a = bb
    · subst q
      rcases z with z | ⟨ps, z⟩ <;> (rw [upd_same] at z; cases z)
    · unfold Fr at z ⊢
      rw [upd_ne q] at z
      exact z
  · rw [hB] at e
    cases e
    obtain ⟨x0, s0, k0, cs, e1, _, _, _, _, e2, e3⟩ := j.1 bb cc hB
    refine ⟨x', s', k', cs, upd_same, a1, a2, a3, a4, ?_, e3⟩
    rw [upd_ne fun z => ?_]
    · exact e2
    · rw [z, e1] at e2
      have t : (cs.map V.int)[3]? = some (V.ref cc) := by rw [← HO.lst.inj (Option.some.inj e2)]; rfl
      rw [List.getElem?_map] at t
      cases hh : cs[3]? with
      | none => rw [hh] at t; cases t
      | some z => rw [hh] at t; cases t
  · rw [upd_ne fun z => ?_]
    · exact e
    · rw [z, hb] at e
      cases e
      exact n1 _ rfl
  · rw [hB] at e
    cases e
    exact ⟨x', s', k', upd_same, a5⟩
theorem ys_put (i j : Nat) {bb cc : Addr} {jj : Nat} {p1 p2 p3 : Pos} (hB : C.M.B = some (bb, cc)) (g : G[i]? = some (.val (.ref bb))) (h : Y X C n G e fun n1 d => ∃ v : Int, d = .int v ∧ 0 ≤ v ∧ (j = 0 ∨ (j = 1 ∧ v < 2147483647)) ∧ KS.nx n1 G) (hN : X.N[i]? = some x := by rfl) (hv : Vis X.env.scope x := by first | exact Or.inl rfl | exact Or.inr (Or.inl rfl) | exact Or.inr (Or.inr rfl)) (hd : (x == ("__debug__" : Str)) = false := by decide) (hcd : (x == ("__classdict__" : Str)) = false := by decide)
    (hs : swapsWithSole [.Subscript (.Name x p1) (.Constant (.int j) jj p2) p3] e pos.line X.env = pure false := by rfl) (hw : swappedStores [.Subscript (.Name x p1) (.Constant (.int j) jj p2) p3] e X.env = pure none := by rfl)
    (h1 : (assignEach [.Subscript (.Name x p1) (.Constant (.int j) jj p2) p3] X.env).map (·.2) = [assign (.Subscript (.Name x p1) (.Constant (.int j) jj p2) p3) X.env] := by rfl)
    (ha : ∀ v, assign (.Subscript (.Name x p1) (.Constant (.int j) jj p2) p3) X.env v = (do
      let lo ← holding [v] (eval (.Name x p1) X.env)
      let ix ← holding [v, lo] (eval (.Constant (.int j) jj p2) X.env)
      standAt p3
      holding [v, lo, ix] (setItem lo ix v)
      release [v, lo, ix] []) := by intro _; rfl) : YS X C n G (.Assign [.Subscript (.Name x p1) (.Constant (.int j) jj p2) p3] e pos) KS := fun A σ H E B D q => by
  refine toS (ps_asg pwE (pg_sub (pv i hN hv hd hcd) pe_int set_list ha) hs hw h1) (h A σ H E B _ fun n1 d v H2 r jm b hh k => ?_)
  obtain ⟨u, rfl, u0, hj, k⟩ := k
  obtain rfl : v = .int u := hh
  have E2 := E.go jm r
  obtain ⟨w, e1, hw⟩ := E2.sl i _ g
  obtain rfl : w = .ref bb := hw
  obtain ⟨xx, s, kk, cs, hb, a1, a2, a3, a4, a5⟩ := jm.1 bb cc hB
  obtain ⟨x', s', k', hb', l⟩ := b.2 bb cc hB
  rw [hb] at hb'
  cases hb'
  rcases hj with rfl | ⟨rfl, hj⟩
  · obtain ⟨r3, j3, b3⟩ := bag_write (x' := u) hB jm hb u0 a2 a3 a4 l
    exact ⟨_, e1, bb, _, (0 : Nat), 0, rfl, rfl, hb, ixN_nat (by show 0 < 4; decide), q.nx n1 G A σ _ (E2.go j3 r3) b3 k⟩
  · obtain ⟨r3, j3, b3⟩ := bag_write (s' := u) hB jm hb a1 u0 hj a4 l
    exact ⟨_, e1, bb, _, (1 : Nat), 1, rfl, rfl, hb, ixN_nat (by show 1 < 4; decide), q.nx n1 G A σ _ (E2.go j3 r3) b3 k⟩
theorem ys_inc (i : Nat) {bb cc : Addr} {jj kk : Nat} {p1 p2 p3 p4 : Pos} (hB : C.M.B = some (bb, cc)) (g : G[i]? = some (.val (.ref bb))) (k : KS.nx (n + 1) G) (hN : X.N[i]? = some x := by rfl) (hv : Vis X.env.scope x := by first | exact Or.inl rfl | exact Or.inr (Or.inl rfl) | exact Or.inr (Or.inr rfl)) (hd : (x == ("__debug__" : Str)) = false := by decide) (hcd : (x == ("__classdict__" : Str)) = false := by decide)
    (ha : ∀ ov iv new, augStore (.Constant (.int 2) jj p2) ov iv new = (do holding [new, ov, iv] (setItem ov iv new); release [new, ov, iv] []; pure .next) := by intros; rfl) :
    YS X C n G (.AugAssign (.Subscript (.Name x p1) (.Constant (.int 2) jj p2) p3) .Add (.Constant (.int 1) kk p4) pos) KS := fun A σ H E B D q => by
  refine toS (ps_augS (pv i hN hv hd hcd) pe_int get_list pe_int ip_add set_list ha) ?_
  obtain ⟨w, e1, hw⟩ := E.sl i _ g
  obtain rfl : w = .ref bb := hw
  obtain ⟨xx, s, k2, cs, hb, a1, a2, a3, a4, a5⟩ := E.j.1 bb cc hB
  obtain ⟨x', s', k', hb', l⟩ := B.2 bb cc hB
  rw [hb] at hb'
  cases hb'
  obtain ⟨r3, j3, b3⟩ := bag_write (k' := k2 + 1) (m := n + 1) hB E.j hb a1 a2 a3 (by omega) (by omega)
  exact ⟨_, e1, bb, _, 2, .int k2, rfl, rfl, SqL.of hb, rfl, k2, 1, rfl, rfl, bb, _, (2 : Nat), 2, rfl, rfl, hb, ixN_nat (by show 2 < 4; decide), q.nx (n + 1) G A σ _ (E.go j3 r3) b3 k⟩
end
section
variable {P : Program} {w : World} {K : PySem.W.Frag} {mg : Str → Option Value} {base : Heap}
def F_take : Md → Int → List D → (Int → D → Prop) → Prop := fun M n ds K => ∃ (b c : Addr) (many : Int), M.B = some (b, c) ∧ ds = [.ref b, .int many] ∧ 1 ≤ many ∧ many ≤ 1000 ∧ 0 ≤ n ∧ n ≤ 1000000 ∧ ∀ m v, m ≤ n + 1 → 0 ≤ m → 0 ≤ v → v < many → K m (.int v)
theorem sm31 {x : Int} (h : 0 ≤ x) (h2 : x < 2147483648) : Sm 31 x := by unfold Sm; omega
set_option maxHeartbeats 1000000 in
theorem ok_take (B : Bt mg) (d : Df K mg "_law_take" s_law_take ["_law_bag_here", "_law_many_here"]) : FnY P w K mg base "_law_take" 1 F_take := by
  refine fnY d sc_law_take (by rintro M n ds Kp ⟨b, c, m, _, rfl, _⟩; rfl) fun f cdv A outer s0 H E M n Kp ds hr h => ?_
  obtain ⟨b, c, many, hB, rfl, m1, m2, n0, n1, hk⟩ := h
  have nd := sc_law_take.nd
  have sm : Sm 10 many := Sm.of 1000 (by omega)
  -- behind the first if
  have rest : ∀ (n' : Int) (G : List SD), n' ≤ n + 1 → 0 ≤ n' → (∃ o2 o3, G = [.val (.ref b), .val (.int many), o2, o3, .no, .no, .no]) → YSs (XC P w K mg base n_law_take "_law_take" s_law_take f cdv A outer s0 H E) ⟨M, H, []⟩ n' G ((defBody s_law_take).drop 1) { nx := fun _ _ => False, rt := Kp } := by
    rintro n' G l1 l2 ⟨o2, o3, rfl⟩
    refine yss_cons (ys_if (yt_two op_gt (by decide) (by decide) (y_bag 0 0 hB rfl fun x s k x0 t0 s1 k0 k1 => ⟨_, rfl, y_int ⟨_, _, rfl, rfl, fun hz => ?_, fun hz => yss_nil ?_⟩⟩)))
    · refine yss_cons (ys_set 4 (y_mod (y_toint B.int (y_bag 0 0 hB rfl fun x s k x0 t0 s1 k0 k1 => ⟨_, rfl, _, rfl, y_v 1 rfl ⟨_, _, rfl, rfl, by omega, ?_⟩⟩))) nd)
      have v0 := Int.emod_nonneg x (show many ≠ 0 by omega)
      have v1 := Int.emod_lt_of_pos x (show 0 < many by omega)
      refine yss_cons (ys_put 0 0 hB rfl (y_div (y_toint B.int (y_bag 0 0 hB rfl fun x s k x0 t0 s1 k0 k1 => ⟨_, rfl, _, rfl, y_v 1 rfl ⟨_, _, rfl, rfl, divOk (by omega) sm, _, rfl, Int.ediv_nonneg x0 (by omega), .inl rfl, ?_⟩⟩))))
      exact yss_one (ys_ret (y_v 4 rfl (hk _ _ l1 l2 v0 v1)))
    · refine yss_cons (ys_set 5 (y_mod (y_toint B.int (y_mul (y_add (y_bag 0 1 hB rfl fun x s k x0 t0 s1 k0 k1 => ⟨_, rfl, y_int ⟨_, _, rfl, rfl, y_int ⟨_, _, rfl, rfl, mulOk (sm31 (by omega) (by omega)) (sm31 (by decide) (by decide)), _, rfl, y_int ⟨_, _, rfl, rfl, by decide, ?_⟩⟩⟩⟩))))) nd)
      have b0 := Int.emod_nonneg ((s + 1) * 39373) (show (1000000007 : Int) ≠ 0 by decide)
      have b1 := Int.emod_lt_of_pos ((s + 1) * 39373) (show (0 : Int) < 1000000007 by decide)
      generalize (s + 1) * 39373 % 1000000007 = bg at b0 b1 ⊢
      refine yss_cons (ys_set 6 (y_mod (y_toint B.int (y_mul (y_mod (y_toint B.int (y_mul (y_v 5 rfl (y_v 5 rfl ⟨_, _, rfl, rfl, mulOk (sm31 b0 (by omega)) (sm31 b0 (by omega)), _, rfl, y_int ⟨_, _, rfl, rfl, by decide, ?_⟩⟩)))))))) nd)
      have d0 := Int.emod_nonneg (bg * bg) (show (998244353 : Int) ≠ 0 by decide)
      have d1 := Int.emod_lt_of_pos (bg * bg) (show (0 : Int) < 998244353 by decide)
      refine y_int ⟨_, _, rfl, rfl, mulOk (sm31 d0 (by omega)) (sm31 (by decide) (by decide)), _, rfl, y_int ⟨_, _, rfl, rfl, by decide, ?_⟩⟩
      refine yss_one (ys_ret (y_mod (y_toint B.int (y_div (y_v 6 rfl (y_int ⟨_, _, rfl, rfl, divOk (by decide) (sm31 (by decide) (by decide)), _, rfl, y_v 1 rfl ⟨_, _, rfl, rfl, by omega, ?_⟩⟩))))))
      exact hk _ _ l1 l2 (Int.emod_nonneg _ (by omega)) (Int.emod_lt_of_pos _ (by omega))
  refine yss_cons (ys_if (yt_two op_eqI (by decide) (by decide) (y_bag 0 0 hB rfl fun x s k x0 t0 s1 k0 k1 => ⟨_, rfl, y_int ⟨_, _, rfl, rfl, fun hz => ?_, fun hz => yss_nil (rest _ _ (by omega) n0 ⟨.no, .no, rfl⟩)⟩⟩)))
  refine yss_cons (ys_set 2 (y_ix (y_catL (y_cells hB (y_bag 0 3 hB rfl fun x s k x0 t0 s1 k0 k1 => ⟨_, rfl, y_bag 0 2 hB rfl fun x s k x0 t0 s1 k0 k1 => ⟨_, rfl, rfl, k, rfl, k0, fun l l0 ll => ?_⟩⟩)))) nd)
  refine y_lst (ya_cons (y_int (ya_nil ⟨by show 1 ≤ 1000; decide, intD l, [.int 0], rfl, rfl, by rw [intD_len]; simp; omega, ?_⟩)))
  obtain ⟨z, z0, ez⟩ : ∃ z : Int, 0 ≤ z ∧ (intD l ++ [D.int 0])[0]? = some (.int z) := by
    cases l with
    | nil => exact ⟨0, Int.le_refl _, rfl⟩
    | cons z l => exact ⟨z, l0 z List.mem_cons_self, rfl⟩
  refine y_int ⟨_, _, _, .inr rfl, rfl, atI_nat (i := 0) ez, ?_⟩
  refine yss_cons (ys_inc 0 hB rfl ?_)
  have tail : ∀ (C : Cn) (KS : KY), C.M = M → (∀ o3, KS.nx (n + 1) [.val (.ref b), .val (.int many), .val (.int z), o3, .no, .no, .no]) → YSs (XC P w K mg base n_law_take "_law_take" s_law_take f cdv A outer s0 H E) C (n + 1) [.val (.ref b), .val (.int many), .val (.int z), .no, .no, .no, .no] ((inB (defBody s_law_take) 0).drop 3) KS := by
    intro C KS hC hn
    have hB' : C.M.B = some (b, c) := by rw [hC]; exact hB
    refine yss_cons (ys_set 3 (y_add (y_add (y_mul (y_bag 0 1 hB' rfl fun x s k x0 t0 s1 k0 k1 => ⟨_, rfl, y_int ⟨_, _, rfl, rfl, mulOk (sm31 t0 (by omega)) (sm31 (by decide) (by decide)), y_mod (y_toint B.int (y_v 2 rfl ⟨_, rfl, y_int ⟨_, _, rfl, rfl, by decide, ?_⟩⟩))⟩⟩)))) nd)
    have q0 := Int.emod_nonneg z (show (2147483647 : Int) ≠ 0 by decide)
    refine ⟨_, _, rfl, rfl, y_mul (y_int (y_bag 0 2 hB' rfl fun x2 s2 k2 x20 s20 s21 k20 k21 => ⟨_, rfl, _, _, rfl, rfl, mulOk (sm31 (by decide) (by decide)) (sm31 k20 (by omega)), _, _, rfl, rfl, ?_⟩))⟩
    have w0 : 0 ≤ s * 48271 + z % 2147483647 + 7919 * k2 := by omega
    refine yss_one (ys_put 0 1 hB' rfl (y_mod (y_toint B.int (y_v 3 rfl ⟨_, rfl, y_int ⟨_, _, rfl, rfl, by decide, _, rfl, Int.emod_nonneg _ (by decide), .inr ⟨rfl, Int.emod_lt_of_pos _ (by decide)⟩, hn _⟩⟩))))
  refine yss_cons (ys_if (yt_two op_ge (by decide) (by decide) (y_v 2 rfl (y_pow (y_int (y_int ⟨_, _, rfl, rfl, ?_, _, _, rfl, rfl, fun hz => ?_, fun hz => yss_nil ?_⟩))))))
  · exact ⟨by decide, by decide, by decide⟩
  · refine yss_one (ys_put 0 0 hB rfl (y_v 2 rfl ⟨_, rfl, z0, .inl rfl, ?_⟩))
    refine tail _ _ rfl ?_
    intro o3
    exact rest _ _ (Int.le_refl _) (by omega) ⟨_, _, rfl⟩
  · refine tail _ _ rfl ?_
    intro o3
    exact rest _ _ (Int.le_refl _) (by omega) ⟨_, _, rfl⟩
end
end FL
end
section
set_option Elab.async false
set_option linter.all false
set_option maxRecDepth 100000
set_option pp.maxSteps 300
/-! What the law draws. -/
namespace FL
open PySem PySem.Spec PyProof.Rows L2 FM
section
variable {P : Program} {w : World} {K : PySem.W.Frag} {mg : Str → Option Value} {base : Heap}
def F_some : Md → Int → List D → (Int → D → Prop) → Prop := fun M n ds K => ∃ (b c : Addr) (things : List D), M.B = some (b, c) ∧ ds = [.ref b, .lst things] ∧ 1 ≤ things.length ∧ things.length ≤ 1000 ∧ 0 ≤ n ∧ n ≤ 1000000 ∧ ∀ m d, m ≤ n + 1 → 0 ≤ m → d ∈ things → K m d
theorem ok_some (B : Bt mg) (d : Df K mg "_law_some" s_law_some ["_law_bag_here", "_law_things"]) (gt : FnY P w K mg base "_law_take" 1 F_take) : FnY P w K mg base "_law_some" 2 F_some := by
  refine fnY d sc_law_some (by rintro M n ds Kp ⟨b, c, m, _, rfl, _⟩; rfl) fun f cdv A outer s0 H E M n Kp ds hr h => ?_
  obtain ⟨b, c, th, hB, rfl, m1, m2, n0, n1, hk⟩ := h
  refine yss_one (ys_ret (y_ix (y_v 1 rfl (y_call gt hr (ya_cons (y_v 0 rfl (ya_cons (y_len B.len (y_v 1 rfl ⟨_, .inr rfl, ya_nil ⟨b, c, _, hB, rfl, by omega, by omega, n0, n1, fun m v l1 l2 v0 v1 => ⟨rfl, ?_⟩⟩⟩)))))))))
  have hv : v.toNat < th.length := by omega
  refine ⟨_, v, th[v.toNat], .inr rfl, rfl, ?_, hk m _ l1 l2 (List.getElem_mem hv)⟩
  have := atI_nat (List.getElem?_eq_getElem hv)
  rw [show ((v.toNat : Nat) : Int) = v by omega] at this
  exact this
/-- in 1 by 360: none, or at least 72, and a multiple of 6 -/
structure Okx (x : Int) : Prop where
  z : x = 0 ∨ 72 ≤ x
  six : ∃ y, x = 6 * y
def F_frac : Md → Int → List D → (Int → D → Prop) → Prop := fun M n ds K => ∃ (b c : Addr) (wide : Int), M.B = some (b, c) ∧ ds = [.ref b, .int wide] ∧ 1 ≤ wide ∧ wide ≤ 100 ∧ 0 ≤ n ∧ n ≤ 999999 ∧ ∀ m x, m ≤ n + 2 → 0 ≤ m → Okx x → x ≤ 360 * (wide - 1) → K m (pr (fr x))
theorem ok_frac (B : Bt mg) (d : Df K mg "_law_fraction" s_law_fraction ["_law_bag_here", "_law_wide"]) (gt : FnY P w K mg base "_law_take" 1 F_take) (gs : FnY P w K mg base "_law_some" 2 F_some) (gp : FnR P w K mg base "_law_part" 2 F_red) : FnY P w K mg base "_law_fraction" 3 F_frac := by
  refine fnY d sc_law_fraction (by rintro M n ds Kp ⟨b, c, m, _, rfl, _⟩; rfl) fun f cdv A outer s0 H E M n Kp ds hr h => ?_
  obtain ⟨b, c, wd, hB, rfl, m1, m2, n0, n1, hk⟩ := h
  refine yss_one (ys_ret (y_old gp hr (ya_cons (y_call gt (hr.mono (by decide)) (ya_cons (y_v 0 rfl (ya_cons (y_v 1 rfl (ya_nil ⟨b, c, wd, hB, rfl, m1, by omega, n0, by omega, fun m v l1 l2 v0 v1 => ⟨rfl, ?_⟩⟩)))))))))
  refine ya_cons (y_call gs hr (ya_cons (y_v 0 rfl (ya_cons (y_lst (ya_cons (y_int (ya_cons (y_int (ya_cons (y_int (ya_cons (y_int (ya_cons (y_int (ya_cons (y_int (ya_nil ⟨by show 6 ≤ 1000; decide, ?_⟩))))))))))))))))))
  refine ya_nil ⟨b, c, _, hB, rfl, by show 1 ≤ 6; decide, by show 6 ≤ 1000; decide, l2, by omega, fun m' d k1 k2 hd => ?_⟩
  have fin : ∀ e : Int, (e = 1 ∨ e = 2 ∨ e = 3 ∨ e = 4 ∨ e = 5) → F_red (m0 M) [.int v, .int e] fun d => imm d = true ∧ Kp m' d := by
    intro e he
    refine ⟨v, e, rfl, by omega, Sm.of (a := 8900) 5 (by omega) (Nat.lt_of_lt_of_le (show 5 < 2 ^ 3 by decide) (Nat.pow_le_pow_right (by decide) (by decide))), rfl, ?_⟩
    have key : ∀ q : Int, e * q = 360 → 72 ≤ q → (∃ y, q = 6 * y) → q ≤ 360 → Kp m' (pr (red v e)) := fun q h1 h2 h3 h4 => by
      obtain ⟨y, hy⟩ := h3
      have e1 : red v e = fr (v * q) := red_eq (by omega) (by decide) (by rw [← h1]; grind)
      rw [e1]
      refine hk m' (v * q) (by omega) k2 ⟨?_, ⟨v * y, by rw [hy]; grind⟩⟩ ?_
      · by_cases z : v = 0
        · exact .inl (by rw [z]; simp)
        · right
          have : 1 * q ≤ v * q := Int.mul_le_mul_of_nonneg_right (by omega) (by omega)
          omega
      · have : v * q ≤ (wd - 1) * 360 := Int.mul_le_mul (by omega) h4 (by omega) (by omega)
        omega
    rcases he with rfl | rfl | rfl | rfl | rfl
    · exact key 360 rfl (by decide) ⟨60, rfl⟩ (by decide)
    · exact key 180 rfl (by decide) ⟨30, rfl⟩ (by decide)
    · exact key 120 rfl (by decide) ⟨20, rfl⟩ (by decide)
    · exact key 90 rfl (by decide) ⟨15, rfl⟩ (by decide)
    · exact key 72 rfl (by decide) ⟨12, rfl⟩ (by decide)
  have hd' : ∃ e : Int, d = .int e ∧ (e = 1 ∨ e = 2 ∨ e = 3 ∨ e = 4 ∨ e = 5) := by
    simp only [List.mem_cons, List.not_mem_nil, or_false] at hd
    rcases hd with rfl | rfl | rfl | rfl | rfl | rfl <;> exact ⟨_, rfl, by omega⟩
  obtain ⟨e, rfl, he⟩ := hd'
  exact ⟨rfl, ya_nil (fin e he)⟩
/-- what the bounds are -/
structure Par (dr sh lo K p : Int) : Prop where
  d : Okx dr
  d2 : dr ≤ 2880
  s : Okx sh
  s2 : sh ≤ 3960
  l1 : 1 ≤ lo
  l3 : lo ≤ 3
  k1 : lo ≤ K
  k2 : K ≤ lo + 3
  p1 : 1 ≤ p
  p3 : p ≤ 3
def F_shape : Md → Int → List D → (Int → D → Prop) → Prop := fun M n ds K => ∃ (b c : Addr), M.B = some (b, c) ∧ ds = [.ref b, .int 3] ∧ 0 ≤ n ∧ n ≤ 1000 ∧ ∀ m dr sh lo wd p, m ≤ n + 20 → 0 ≤ m → Par dr sh lo wd p → K m (.tup [pr (fr dr), pr (fr sh), .int lo, .int wd, .int p])
set_option maxHeartbeats 1000000 in
theorem ok_shape (B : Bt mg) (d : Df K mg "_law_shape_of_bounds" s_law_shape_of_bounds ["_law_bag_here", "_law_most"]) (gt : FnY P w K mg base "_law_take" 1 F_take) (gs : FnY P w K mg base "_law_some" 2 F_some) (gf : FnY P w K mg base "_law_fraction" 3 F_frac) : FnY P w K mg base "_law_shape_of_bounds" 4 F_shape := by
  refine fnY d sc_law_shape_of_bounds (by rintro M n ds Kp ⟨b, c, _, rfl, _⟩; rfl) fun f cdv A outer s0 H E M n Kp ds hr h => ?_
  obtain ⟨b, c, hB, rfl, n0, n1, hk⟩ := h
  have nd := sc_law_shape_of_bounds.nd
  have h2 : Room 2 (XC P w K mg base n_law_shape_of_bounds "_law_shape_of_bounds" s_law_shape_of_bounds f cdv A outer s0 H E).A := hr.mono (by decide)
  have h1 : Room 1 (XC P w K mg base n_law_shape_of_bounds "_law_shape_of_bounds" s_law_shape_of_bounds f cdv A outer s0 H E).A := hr.mono (by decide)
  refine yss_cons (ys_set 2 (y_add (y_int (y_call gt h1 (ya_cons (y_v 0 rfl (ya_cons (y_v 1 rfl (ya_nil ⟨b, c, 3, hB, rfl, by decide, by decide, n0, by omega, fun m v a1 a2 v0 v1 => ⟨rfl, _, _, rfl, rfl, ?_⟩⟩)))))))) nd)
  refine yss_cons (ys_set 3 (y_add (y_v 2 rfl (y_call gs h2 (ya_cons (y_v 0 rfl (ya_cons (y_lst (ya_cons (y_int (ya_cons (y_int (ya_cons (y_int (ya_cons (y_int (ya_cons (y_int (ya_cons (y_int (ya_nil ⟨by show 6 ≤ 1000; decide, ?_⟩)))))))))))))))))))) nd)
  refine ya_nil ⟨b, c, _, hB, rfl, by show 1 ≤ 6; decide, by show 6 ≤ 1000; decide, a2, by omega, fun m2 d2 b1 b2 hd2 => ?_⟩
  obtain ⟨wi, rfl, w0, w3⟩ : ∃ e : Int, d2 = .int e ∧ 0 ≤ e ∧ e ≤ 3 := by
    simp only [List.mem_cons, List.not_mem_nil, or_false] at hd2
    rcases hd2 with rfl | rfl | rfl | rfl | rfl | rfl <;> exact ⟨_, rfl, by omega, by omega⟩
  refine ⟨rfl, _, _, rfl, rfl, ?_⟩
  refine yss_cons (ys_set 4 (y_call gs h2 (ya_cons (y_v 0 rfl (ya_cons (y_lst (ya_cons (y_pair (y_int (y_int ⟨_, _, rfl, rfl, ?_⟩))))))))) nd)
  refine ya_cons (y_call gf hr (ya_cons (y_v 0 rfl (ya_cons (y_int (ya_nil ⟨b, c, 4, hB, rfl, by decide, by decide, b2, by omega, fun m3 x3 c1 c2 o3 l3 => ⟨rfl, ?_⟩⟩))))))
  refine ya_cons (y_call gf hr (ya_cons (y_v 0 rfl (ya_cons (y_int (ya_nil ⟨b, c, 9, hB, rfl, by decide, by decide, c2, by omega, fun m4 x4 d1 d2 o4 l4 => ⟨rfl, ?_⟩⟩))))))
  refine ya_cons (y_pair (y_int (y_int ⟨_, _, rfl, rfl, ya_cons (y_pair (y_int (y_int ⟨_, _, rfl, rfl, ya_nil ⟨by show 5 ≤ 1000; decide, ?_⟩⟩)))⟩)))
  refine ya_nil ⟨b, c, _, hB, rfl, by show 1 ≤ 5; decide, by show 5 ≤ 1000; decide, d2, by omega, fun m5 dd e1 e2 hd => ?_⟩
  obtain ⟨dr, rfl, od, od2⟩ : ∃ dr, dd = pr (fr dr) ∧ Okx dr ∧ dr ≤ 2880 := by
    simp only [List.mem_cons, List.not_mem_nil, or_false] at hd
    rcases hd with rfl | rfl | rfl | rfl | rfl
    · exact ⟨0, rfl, ⟨.inl rfl, 0, rfl⟩, by decide⟩
    · exact ⟨x3, rfl, o3, by omega⟩
    · exact ⟨x4, rfl, o4, by omega⟩
    · exact ⟨180, rfl, ⟨.inr (by decide), 30, rfl⟩, by decide⟩
    · exact ⟨360, rfl, ⟨.inr (by decide), 60, rfl⟩, by decide⟩
  refine ⟨rfl, ?_⟩
  refine yss_cons (ys_set 5 (y_call gs h2 (ya_cons (y_v 0 rfl (ya_cons (y_lst (ya_cons (y_pair (y_int (y_int ⟨_, _, rfl, rfl, ?_⟩))))))))) nd)
  refine ya_cons (y_call gf hr (ya_cons (y_v 0 rfl (ya_cons (y_int (ya_nil ⟨b, c, 4, hB, rfl, by decide, by decide, e2, by omega, fun m6 x6 f1 f2 o6 l6 => ⟨rfl, ?_⟩⟩))))))
  refine ya_cons (y_call gf hr (ya_cons (y_v 0 rfl (ya_cons (y_int (ya_nil ⟨b, c, 12, hB, rfl, by decide, by decide, f2, by omega, fun m7 x7 g1 g2 o7 l7 => ⟨rfl, ?_⟩⟩))))))
  refine ya_cons (y_pair (y_int (y_int ⟨_, _, rfl, rfl, ya_cons (y_pair (y_int (y_int ⟨_, _, rfl, rfl, ya_nil ⟨by show 5 ≤ 1000; decide, ?_⟩⟩)))⟩)))
  refine ya_nil ⟨b, c, _, hB, rfl, by show 1 ≤ 5; decide, by show 5 ≤ 1000; decide, g2, by omega, fun m8 dd h1' h2' hd => ?_⟩
  obtain ⟨sh, rfl, os, os2⟩ : ∃ sh, dd = pr (fr sh) ∧ Okx sh ∧ sh ≤ 3960 := by
    simp only [List.mem_cons, List.not_mem_nil, or_false] at hd
    rcases hd with rfl | rfl | rfl | rfl | rfl
    · exact ⟨0, rfl, ⟨.inl rfl, 0, rfl⟩, by decide⟩
    · exact ⟨x6, rfl, o6, by omega⟩
    · exact ⟨x7, rfl, o7, by omega⟩
    · exact ⟨540, rfl, ⟨.inr (by decide), 90, rfl⟩, by decide⟩
    · exact ⟨360, rfl, ⟨.inr (by decide), 60, rfl⟩, by decide⟩
  refine ⟨rfl, ?_⟩
  refine yss_one (ys_ret (y_tup (ya_cons (y_v 4 rfl (ya_cons (y_v 5 rfl (ya_cons (y_v 2 rfl (ya_cons (y_v 3 rfl (ya_cons (y_call gs h2 (ya_cons (y_v 0 rfl (ya_cons (y_lst (ya_cons (y_int (ya_cons (y_int (ya_cons (y_int (ya_cons (y_int (ya_cons (y_int (ya_nil ⟨by show 5 ≤ 1000; decide, ?_⟩)))))))))))))))))))))))))))
  refine ya_nil ⟨b, c, _, hB, rfl, by show 1 ≤ 5; decide, by show 5 ≤ 1000; decide, h2', by omega, fun m9 d9 i1 i2 hd9 => ?_⟩
  obtain ⟨p, rfl, q0, q3⟩ : ∃ e : Int, d9 = .int e ∧ 1 ≤ e ∧ e ≤ 3 := by
    simp only [List.mem_cons, List.not_mem_nil, or_false] at hd9
    rcases hd9 with rfl | rfl | rfl | rfl | rfl <;> exact ⟨_, rfl, by omega, by omega⟩
  exact ⟨rfl, ya_nil ⟨by show 5 ≤ 1000; decide, hk m9 dr sh (1 + v) (1 + v + wi) p (by omega) i2 ⟨od, od2, os, os2, by omega, by omega, by omega, by omega, q0, q3⟩⟩⟩
def F_row : Md → Int → List D → (Int → D → Prop) → Prop := fun M n ds K => ∃ (bb c : Addr) (b : Pm) (runs : Nat), M.B = some (bb, c) ∧ ds = [.ref bb, bD b, .int runs] ∧ b.Ok ∧ runs ≤ 100 ∧ 0 ≤ n ∧ n ≤ 1000 ∧ ∀ m (ns : List Int), m ≤ n + runs → ns.length = runs → (∀ x ∈ ns, b.lo ≤ x ∧ x ≤ b.K) → K m (.tup (intD ns))
theorem ints_back {p : Int → Prop} : ∀ {ds : List D}, (∀ d ∈ ds, ∃ x : Int, d = .int x ∧ p x) → ∃ ns : List Int, ds = intD ns ∧ ∀ x ∈ ns, p x
  | [], _ => ⟨[], rfl, fun x h => by cases h⟩
  | d :: ds, h => by
    obtain ⟨ns, rfl, hn⟩ := ints_back fun d hd => h d (List.mem_cons_of_mem _ hd)
    obtain ⟨x, rfl, hx⟩ := h _ List.mem_cons_self
    exact ⟨x :: ns, rfl, fun y hy => by rcases List.mem_cons.mp hy with rfl | hy; exact hx; exact hn y hy⟩
theorem ok_row (B : Bt mg) (d : Df K mg "_law_row" s_law_row ["_law_bag_here", "_law_bounds", "_law_runs"]) (gt : FnY P w K mg base "_law_take" 1 F_take) : FnY P w K mg base "_law_row" 2 F_row := by
  refine fnY d sc_law_row (by rintro M n ds Kp ⟨b, c, _, _, _, rfl, _⟩; rfl) fun f cdv A outer s0 H E M n Kp ds hr h => ?_
  obtain ⟨bb, c, b, runs, hB, rfl, hb, r2, n0, n1, hk⟩ := h
  have nd := sc_law_row.nd
  have k1 := hb.lK
  have k2 := hb.K2
  have k3 := hb.l1
  refine yss_one (ys_ret (y_tupOf B.tuple (y_lc 3 (blk (by rfl)) nd B.range (y_v 2 rfl ⟨runs, 1, rfl, by omega, fun i d => ∃ x : Int, d = .int x ∧ b.lo ≤ x ∧ x ≤ b.K, fun i d ⟨x, e, _⟩ => by rw [e]; rfl, fun i n' hi hn => ?_, fun n2 ds hn dl dh => ⟨ds, rfl, ?_⟩⟩))))
  · intro s H c' cl fp
    refine y_nn fun hn0 => ?_
    refine y_add (y_ix (y_v 1 rfl (y_int ⟨_, _, .int b.lo, .inl rfl, rfl, rfl, ?_⟩)))
    refine y_call gt hr (ya_cons (y_v 0 rfl (ya_cons (y_add (y_sub (y_ix (y_v 1 rfl (y_int ⟨_, _, .int b.K, .inl rfl, rfl, rfl, y_ix (y_v 1 rfl (y_int ⟨_, _, .int b.lo, .inl rfl, rfl, rfl, _, _, rfl, rfl, y_int ⟨_, _, rfl, rfl, ?_⟩⟩))⟩))))))))
    have hi2 : (i : Int) < runs := by omega
    refine ya_nil ⟨bb, c, b.K - b.lo + 1, hB, rfl, by omega, by omega, hn0, by omega, fun m v l1 l2 v0 v1 => ⟨rfl, _, _, rfl, rfl, ⟨b.lo + v, rfl, by omega, by omega⟩, by omega⟩⟩
  · obtain ⟨ns, rfl, hns⟩ := ints_back (p := fun x => b.lo ≤ x ∧ x ≤ b.K) fun d hd => by
      obtain ⟨i, hi⟩ := List.getElem?_of_mem hd
      exact dh i d hi
    rw [intD_len] at dl
    exact hk n2 ns (by omega) dl hns
end
end FL
end
section
set_option Elab.async false
set_option linter.all false
set_option maxRecDepth 100000
set_option pp.maxSteps 300
/-! The ride, the telling, the shifts. -/
namespace FL
open PySem PySem.Spec PyProof.Rows L2 FM
section
variable {P : Program} {w : World} {K : PySem.W.Frag} {mg : Str → Option Value} {base : Heap}
theorem red_fr {x : Int} {k y : Int} (hk : 0 < k) (h : x = y * k) : red (fr x).1 ((fr x).2 * k) = fr y := by
  have v := V.fr x
  refine red_eq (Int.mul_pos v.pos hk) (by decide) ?_
  have e := v.val
  subst h
  refine Int.eq_of_mul_eq_mul_right (Int.ne_of_gt hk) ?_
  grind
/-- a ride: each cell at least the least, neighbours at most the drift apart -/
structure Ride (cell dr : Int) (ls : List Int) : Prop where
  ge : ∀ x ∈ ls, 360 * cell ≤ x
  up : ∀ i (h : i + 1 < ls.length), ls[i + 1] - ls[i] ≤ dr ∧ ls[i] - ls[i + 1] ≤ dr
  fst : ∀ (h : 0 < ls.length), ls[0] ≤ 360 * (cell + 3)
theorem Ride.le {cell dr : Int} {ls : List Int} (h : Ride cell dr ls) (hd : 0 ≤ dr) : ∀ i (hi : i < ls.length), ls[i] ≤ 360 * (cell + 3) + dr * i
  | 0, hi => by have := h.fst hi; simpa using this
  | i + 1, hi => by
    have := h.up i hi
    have ih := h.le hd i (by omega)
    have e : dr * ((i + 1 : Nat) : Int) = dr * i + dr := by grind
    omega
theorem Ride.snoc {cell dr : Int} {ls : List Int} {x : Int} (h : Ride cell dr ls) (h1 : 360 * cell ≤ x) (h2 : ∀ (hp : 0 < ls.length), x - ls[ls.length - 1] ≤ dr ∧ ls[ls.length - 1] - x ≤ dr) (h3 : ls = [] → x ≤ 360 * (cell + 3)) : Ride cell dr (ls ++ [x]) := by
  refine ⟨fun y hy => ?_, fun i hi => ?_, fun hi => ?_⟩
  · rcases List.mem_append.mp hy with hy | hy
    · exact h.ge y hy
    · obtain rfl := List.mem_singleton.mp hy
      exact h1
  · rw [List.length_append, List.length_singleton] at hi
    by_cases c : i + 1 < ls.length
    · rw [List.getElem_append_left c, List.getElem_append_left (by omega)]
      exact h.up i c
    · have e : i = ls.length - 1 := by omega
      rw [List.getElem_append_right (by omega), List.getElem_append_left (by omega)]
      subst e
      simpa using h2 (by omega)
  · by_cases c : 0 < ls.length
    · rw [List.getElem_append_left c]
      exact h.fst c
    · have e : ls = [] := List.length_eq_zero_iff.mp (by omega)
      subst e
      exact h3 rfl
def F_ride : Md → Int → List D → (Int → D → Prop) → Prop := fun M n ds K => ∃ (bb c : Addr) (b : Pm) (cells : Nat), M.B = some (bb, c) ∧ ds = [.ref bb, bD b, .int cells] ∧ b.Ok ∧ (∃ y, b.dr = y * 2) ∧ cells ≤ 1000 ∧ n ≤ 10000 ∧ ∀ m (ls : List Int), m ≤ n + 1 + 10 * cells → ls.length = cells → Ride b.cell b.dr ls → K m (.tup (frs ls))
set_option maxHeartbeats 4000000 in
theorem ok_ride (B : Bt mg) (d : Df K mg "_law_ride" s_law_ride ["_law_bag_here", "_law_bounds", "_law_cells_here"]) (gt : FnY P w K mg base "_law_take" 1 F_take) (gs : FnY P w K mg base "_law_some" 2 F_some) (gp : FnR P w K mg base "_law_part" 2 F_red) (gm : FnR P w K mg base "_law_many" 3 F_many) (ga : FnR P w K mg base "_law_add" 3 F_added) (gb : FnR P w K mg base "_law_is_below" 1 F_below) : FnY P w K mg base "_law_ride" 4 F_ride := by
  refine fnY d sc_law_ride (by rintro M n ds Kp ⟨b, c, _, _, _, rfl, _⟩; rfl) fun f cdv A outer s0 H E M n Kp ds hr h => ?_
  obtain ⟨bb, c, b, cells, hB, rfl, hb, ⟨dh, hdh⟩, r2, n1, hk⟩ := h
  have nd := sc_law_ride.nd
  have h2 : Room 2 (XC P w K mg base n_law_ride "_law_ride" s_law_ride f cdv A outer s0 H E).A := hr.mono (by decide)
  have h1 : Room 1 (XC P w K mg base n_law_ride "_law_ride" s_law_ride f cdv A outer s0 H E).A := hr.mono (by decide)
  have hu : (XC P w K mg base n_law_ride "_law_ride" s_law_ride f cdv A outer s0 H E).A.units + 64 < cLine := hr.units
  have d1 := hb.d1
  have d2 := hb.d2
  have bd := hb.bd
  have sc : Sm 215 (360 * (b.cell + 3)) := ((Sm.of (a := 9) (x := 360) 360 (by decide)).mul (hb.c2.add ((Sm.of (a := 2) (x := 3) 3 (by decide)).mono (by decide)))).mono (by decide)
  refine yss_nn fun nn => ?_
  refine yss_cons (ys_par2P 3 4 (y_call gs h2 (ya_cons (y_v 0 rfl (ya_cons (y_lst (ya_cons (y_int (ya_cons (y_int (ya_cons (y_int (ya_nil ⟨by show 3 ≤ 1000; decide, ?_⟩)))))))))))) nd)
  refine ya_nil ⟨bb, c, _, hB, rfl, by show 1 ≤ 3; decide, by show 3 ≤ 1000; decide, nn, by omega, fun m0 w0 a1 a2 hw => ?_⟩
  obtain ⟨way, rfl, hway⟩ : ∃ e : Int, w0 = .int e ∧ (e = 0 ∨ e = 1 ∨ e = 2) := by
    simp only [List.mem_cons, List.not_mem_nil, or_false] at hw
    rcases hw with rfl | rfl | rfl <;> exact ⟨_, rfl, by omega⟩
  refine ⟨rfl, rfl, ?_⟩
  refine yss_cons (ys_for1 5 B.range (y_v 2 rfl ⟨cells, rfl, by omega, fun i m G => ∃ (ls : List Int) (o5 o6 o7 o8 o9 : SD), G = [.val (.ref bb), .val (bD b), .val (.int cells), .own (frs ls), .val (.int way), o5, o6, o7, o8, o9] ∧ ls.length = i ∧ i ≤ cells ∧ m ≤ n + 1 + 10 * i ∧ Ride b.cell b.dr ls, ⟨[], _, _, _, _, _, rfl, rfl, Nat.zero_le _, by omega, ⟨fun x h => (by cases h), fun i h => absurd h (Nat.not_lt_zero _), fun h => absurd h (Nat.lt_irrefl _)⟩⟩, ?_, ?_⟩) nd)
  · rintro i m G hi ⟨ls, o5, o6, o7, o8, o9, rfl, li, hi1, hm, ride⟩
    have efr : frs ls = prs (ls.map fr) := by unfold frs prs; rw [List.map_map]; rfl
    have emp : (ls.map fr).isEmpty = decide (ls = []) := by cases ls <;> rfl
    -- behind ahead
    have rest : ∀ (ah : Int) (m2 : Int), m2 ≤ m + 1 → 360 * b.cell ≤ ah → (∀ (hp : 0 < ls.length), ah = ls[ls.length - 1]) → Sm 300 ah → ah ≤ 360 * (b.cell + 3) ∨ ls ≠ [] → ∀ (C : Cn) (KS : KY), C.M = M → (∀ m3 x o5 o6 o7 o8 o9, m3 ≤ m + 10 → Ride b.cell b.dr (ls ++ [x]) → KS.nx m3 [.val (.ref bb), .val (bD b), .val (.int cells), .own (frs (ls ++ [x])), .val (.int way), o5, o6, o7, o8, o9]) →
        YSs (XC P w K mg base n_law_ride "_law_ride" s_law_ride f cdv A outer s0 H E) C m2 [.val (.ref bb), .val (bD b), .val (.int cells), .own (frs ls), .val (.int way), .val (.int i), .val (pr (fr ah)), o7, o8, o9] ((inB (defBody s_law_ride) 1).drop 1) KS := by
      intro ah m2 hm2 hah hls sah hf C KS hC hn
      have hB' : C.M.B = some (bb, c) := by rw [hC]; exact hB
      refine yss_nn fun nn2 => ?_
      refine yss_cons (ys_set 7 (y_old gp h2 (ya_cons (y_ix (y_ix (y_v 1 rfl (y_int ⟨_, _, pr (fr b.dr), .inl rfl, rfl, rfl, y_int ⟨_, _, .int (fr b.dr).1, .inl rfl, rfl, rfl, ?_⟩⟩)))))) nd)
      refine ya_cons (y_mul (y_ix (y_ix (y_v 1 rfl (y_int ⟨_, _, pr (fr b.dr), .inl rfl, rfl, rfl, y_int ⟨_, _, .int (fr b.dr).2, .inl rfl, rfl, rfl, y_int ⟨_, _, rfl, rfl, mulOk bd.d (Sm.of (a := 2) (x := 2) 2 (by decide)), ?_⟩⟩⟩)))))
      refine ya_nil ⟨_, _, rfl, Int.mul_pos bd.pos (by decide), (bd.d.mul (Sm.of (a := 2) (x := 2) 2 (by decide))).mono (by decide), rfl, ?_⟩
      rw [red_fr (by decide) hdh]
      refine yss_cons (ys_set 8 (y_call gs h2 (ya_cons (y_v 0 rfl (ya_cons (y_lst (ya_cons (y_pair (y_int (y_int ⟨_, _, rfl, rfl, ?_⟩))))))))) nd)
      refine ya_cons (y_ix (y_v 1 rfl (y_int ⟨_, _, pr (fr b.dr), .inl rfl, rfl, rfl, ?_⟩)))
      refine ya_cons (y_old gm hr (ya_cons (y_ix (y_v 1 rfl (y_int ⟨_, _, pr (fr b.dr), .inl rfl, rfl, rfl, ya_cons (y_neg (y_int ⟨1, rfl, ya_nil ⟨_, _, rfl, bd.mono (by decide), (Sm.of (a := 2) (x := -1) 1 (by decide)).mono (by decide), rfl, ?_⟩⟩))⟩)))))
      rw [many_fr]
      refine ya_cons (y_v 7 rfl (ya_nil ⟨by show 4 ≤ 1000; decide, ?_⟩))
      refine ya_nil ⟨bb, c, _, hB', rfl, by show 1 ≤ 4; decide, by show 4 ≤ 1000; decide, nn2, by omega, fun m3 w3 b1 b2 hw3 => ?_⟩
      obtain ⟨st, rfl, s1, s2⟩ : ∃ st, w3 = pr (fr st) ∧ -b.dr ≤ st ∧ st ≤ b.dr := by
        simp only [List.mem_cons, List.not_mem_nil, or_false] at hw3
        rcases hw3 with rfl | rfl | rfl | rfl
        · exact ⟨0, rfl, by omega, by omega⟩
        · exact ⟨b.dr, rfl, by omega, by omega⟩
        · exact ⟨b.dr * -1, rfl, by omega, by omega⟩
        · exact ⟨dh, rfl, by omega, by omega⟩
      refine ⟨rfl, ?_⟩
      refine yss_cons (ys_set 8 (y_ix (y_lst (ya_cons (y_v 8 rfl (ya_cons (y_ix (y_v 1 rfl (y_int ⟨_, _, pr (fr b.dr), .inl rfl, rfl, rfl, ?_⟩)))))))) nd)
      refine ya_cons (y_old gm hr (ya_cons (y_ix (y_v 1 rfl (y_int ⟨_, _, pr (fr b.dr), .inl rfl, rfl, rfl, ya_cons (y_neg (y_int ⟨1, rfl, ya_nil ⟨_, _, rfl, bd.mono (by decide), (Sm.of (a := 2) (x := -1) 1 (by decide)).mono (by decide), rfl, ?_⟩⟩))⟩)))))
      rw [many_fr]
      refine ya_nil ⟨by show 3 ≤ 1000; decide, ?_⟩
      have fin : ∀ m4 (j : Int), m4 ≤ m3 + 1 → (j = 0 ∨ j = 1 ∨ j = 2) → ∃ ds i d, (D.lst [pr (fr st), pr (fr b.dr), pr (fr (b.dr * -1))] = .tup ds ∨ D.lst [pr (fr st), pr (fr b.dr), pr (fr (b.dr * -1))] = .lst ds) ∧ D.int j = .int i ∧ L2.atI ds i = some d ∧ ∃ st2, d = pr (fr st2) ∧ -b.dr ≤ st2 ∧ st2 ≤ b.dr := by
        rintro m4 j _ (rfl | rfl | rfl)
        · exact ⟨_, _, _, .inr rfl, rfl, rfl, st, rfl, s1, s2⟩
        · exact ⟨_, _, _, .inr rfl, rfl, rfl, b.dr, rfl, by omega, by omega⟩
        · exact ⟨_, _, _, .inr rfl, rfl, rfl, b.dr * -1, rfl, by omega, by omega⟩
      have last : ∀ (m4 st2 nx : Int), m4 ≤ m3 + 1 → Sm 301 nx → (∀ (hp : 0 < ls.length), nx - ls[ls.length - 1] ≤ b.dr ∧ ls[ls.length - 1] - nx ≤ b.dr) → (ls = [] → nx ≤ 360 * (b.cell + 3)) →
          YSs (XC P w K mg base n_law_ride "_law_ride" s_law_ride f cdv A outer s0 H E) C m4 [.val (.ref bb), .val (bD b), .val (.int cells), .own (frs ls), .val (.int way), .val (.int i), .val (pr (fr ah)), .val (pr (fr dh)), .val (pr (fr st2)), .val (pr (fr nx))] ((inB (defBody s_law_ride) 1).drop 5) KS := by
        intro m4 st2 nx hm4 snx t1 t2
        refine yss_one (ys_app 3 rfl (by rw [frs_len]; omega) (y_if (yt_not (yt_val (y_old gb h1 (ya_cons (y_v 9 rfl (ya_cons (y_pair (y_ix (y_v 1 rfl (y_int ⟨_, _, .int b.cell, .inl rfl, rfl, rfl, y_int ⟨_, _, rfl, rfl, ya_nil ⟨_, _, rfl, (Bq.fr snx).mono (by decide), ⟨Int.one_pos, hb.c2.mono (by decide), (Sm.of (a := 2) (x := 1) 1 (by decide)).mono (by decide)⟩, rfl, _, rfl, ?_⟩⟩⟩))))))))))))
        rw [fr_one, show decide ((fr nx).1 * (fr (360 * b.cell)).2 < (fr (360 * b.cell)).1 * (fr nx).2) = decide (nx < 360 * b.cell) from decide_eq_decide.mpr (fr_lt nx (360 * b.cell))]
        have snd : ∀ x : Int, frs ls ++ [pr (fr x)] = frs (ls ++ [x]) := fun x => by unfold frs; rw [List.map_append]; rfl
        refine ⟨fun hz => y_v 9 rfl ?_, fun hz => y_pair (y_ix (y_v 1 rfl (y_int ⟨_, _, .int b.cell, .inl rfl, rfl, rfl, y_int ⟨_, _, rfl, rfl, ?_⟩⟩)))⟩
        · have hz' : ¬ nx < 360 * b.cell := by simpa using hz
          show KS.nx _ [_, _, _, .own (frs ls ++ [pr (fr nx)]), _, _, _, _, _, _]
          rw [snd]
          exact hn _ _ _ _ _ _ _ (by omega) (ride.snoc (by omega) t1 t2)
        · have hz' : nx < 360 * b.cell := by simpa using hz
          show KS.nx _ [_, _, _, .own (frs ls ++ [pr (b.cell, 1)]), _, _, _, _, _, _]
          rw [fr_one, snd]
          refine hn _ _ _ _ _ _ _ (by omega) (ride.snoc (Int.le_refl _) (fun hp => ?_) (fun _ => by omega))
          have := t1 hp
          have := ride.ge ls[ls.length - 1] (List.getElem_mem _)
          omega
      have next : ∀ (m4 st2 : Int), m4 ≤ m3 + 1 → -b.dr ≤ st2 → st2 ≤ b.dr →
          YSs (XC P w K mg base n_law_ride "_law_ride" s_law_ride f cdv A outer s0 H E) C m4 [.val (.ref bb), .val (bD b), .val (.int cells), .own (frs ls), .val (.int way), .val (.int i), .val (pr (fr ah)), .val (pr (fr dh)), .val (pr (fr st2)), o9] ((inB (defBody s_law_ride) 1).drop 4) KS := by
        intro m4 st2 hm4 u1 u2
        have s3 : Sm 20 st2 := by have := hb.sd; unfold Sm at this ⊢; omega
        refine yss_cons (ys_set 9 (y_if (yt_neNilOwn (ps := ls.map fr) 3 (by rw [← efr]; rfl) hu ⟨fun hz => y_old ga hr (ya_cons (y_v 6 rfl (ya_cons (y_v 8 rfl (ya_nil ⟨_, _, rfl, (Bq.fr sah).mono (by decide), (Bq.fr s3).mono (by decide), ?_⟩))))), fun hz => y_v 6 rfl ?_⟩)) nd)
        · rw [add_fr]
          refine ⟨rfl, last m4 st2 (ah + st2) hm4 ((sah.add (s3.mono (by decide : 20 ≤ 300))).mono (by decide)) (fun hp => ?_) (fun e => ?_)⟩
          · have := hls hp
            omega
          · subst e
            simp at hz
        · have e : ls = [] := by rw [emp] at hz; simpa using hz
          refine last m4 st2 ah hm4 (sah.mono (by decide)) (fun hp => ?_) (fun _ => ?_)
          · subst e
            exact absurd hp (Nat.lt_irrefl _)
          · rcases hf with h | h
            · exact h
            · exact absurd e h
      refine y_if (yt_gt (y_call gt h1 (ya_cons (y_v 0 rfl (ya_cons (y_int (ya_nil ⟨bb, c, _, hB', rfl, by decide, by decide, b2, by omega, fun m4 v l1 l2 v0 v1 => ⟨rfl, ?_⟩⟩)))))))
      refine y_int ⟨_, _, rfl, rfl, fun _ => y_v 4 rfl ?_, fun _ => y_int ?_⟩
      · obtain ⟨ds, ii, dd, q1, q2, q3, st2, rfl, q4, q5⟩ := fin m4 way l1 hway
        exact ⟨ds, ii, _, q1, q2, q3, next m4 st2 l1 q4 q5⟩
      · obtain ⟨ds, ii, dd, q1, q2, q3, st2, rfl, q4, q5⟩ := fin m4 0 l1 (.inl rfl)
        exact ⟨ds, ii, _, q1, q2, q3, next m4 st2 l1 q4 q5⟩
    have scl : Sm 215 (360 * b.cell) := ((Sm.of (a := 9) (x := 360) 360 (by decide)).mul hb.c2).mono (by decide)
    refine yss_nn fun mnn => ?_
    refine yss_cons (ys_set 6 (y_if (yt_neNilOwn (ps := ls.map fr) 3 (by rw [← efr]; rfl) hu ⟨fun hz => ?_, fun hz => ?_⟩)) nd)
    · have ne : ls ≠ [] := by rw [emp] at hz; simpa using hz
      have hp : 0 < ls.length := List.length_pos_iff.mpr ne
      have ht : L2.atI (frs ls) (-1) = some (pr (fr ls[ls.length - 1])) := by
        refine atI_neg (i := 1) ?_ (by decide) (by rw [frs_len]; omega)
        rw [frs_len]
        unfold frs
        rw [List.getElem?_map, List.getElem?_eq_getElem (by omega)]
        rfl
      refine y_ixOwn 3 rfl (y_neg (y_int ⟨1, rfl, _, _, rfl, ht, ?_⟩))
      have gg := ride.ge ls[ls.length - 1] (List.getElem_mem _)
      have ll := ride.le d1 (ls.length - 1) (by omega)
      refine rest ls[ls.length - 1] m (by omega) gg (fun _ => rfl) ?_ (.inr ne) _ _ rfl ?_
      · have l2 : b.dr * ((ls.length - 1 : Nat) : Int) ≤ 10000 * 1000 := Int.mul_le_mul d2 (by omega) (by omega) (by decide)
        unfold Sm at sc scl ⊢
        omega
      · intro m3 x o5 o6 o7 o8 o9 hm3 hr3
        exact ⟨ls ++ [x], _, _, _, _, _, rfl, by rw [List.length_append, li]; rfl, hi, by omega, hr3⟩
    · have e : ls = [] := by rw [emp] at hz; simpa using hz
      refine y_pair (y_add (y_ix (y_v 1 rfl (y_int ⟨_, _, .int b.cell, .inl rfl, rfl, rfl, ?_⟩))))
      refine y_call gs h2 (ya_cons (y_v 0 rfl (ya_cons (y_lst (ya_cons (y_int (ya_cons (y_int (ya_cons (y_int (ya_nil ⟨by show 3 ≤ 1000; decide, ?_⟩)))))))))))
      refine ya_nil ⟨bb, c, _, hB, rfl, by show 1 ≤ 3; decide, by show 3 ≤ 1000; decide, mnn, by omega, fun m3 w3 b1 b2 hw3 => ?_⟩
      obtain ⟨k, rfl, k0, k1⟩ : ∃ k : Int, w3 = .int k ∧ 0 ≤ k ∧ k ≤ 3 := by
        simp only [List.mem_cons, List.not_mem_nil, or_false] at hw3
        rcases hw3 with rfl | rfl | rfl <;> exact ⟨_, rfl, by omega, by omega⟩
      refine ⟨rfl, _, _, rfl, rfl, y_int ⟨_, _, rfl, rfl, ?_⟩⟩
      rw [fr_one]
      refine rest (360 * (b.cell + k)) m3 b1 (by omega) (fun hp => ?_) ?_ (.inl (by omega)) _ _ rfl ?_
      · subst e
        exact absurd hp (Nat.lt_irrefl _)
      · unfold Sm at sc scl ⊢
        omega
      · intro m4 x o5 o6 o7 o8 o9 hm3 hr3
        exact ⟨ls ++ [x], _, _, _, _, _, rfl, by rw [List.length_append, li]; rfl, hi, by omega, hr3⟩
  · rintro m G ⟨ls, o5, o6, o7, o8, o9, rfl, li, hi1, hm, ride⟩
    exact yss_freeze 3 rfl (yss_one (ys_ret (y_tupOf B.tuple (y_v 3 rfl ⟨_, rfl, hk m ls (by omega) li ride⟩))))
end
end FL
end
section
set_option Elab.async false
set_option linter.all false
set_option maxRecDepth 100000
set_option pp.maxSteps 300
/-! The telling. -/
namespace FL
open PySem PySem.Spec PyProof.Rows L2 FM
section
variable {P : Program} {w : World} {K : PySem.W.Frag} {mg : Str → Option Value} {base : Heap}
def F_telling : Md → Int → List D → (Int → D → Prop) → Prop := fun M n ds K => ∃ (bb c : Addr) (b : Pm) (cells : Nat), M.B = some (bb, c) ∧ ds = [.ref bb, bD b, .int cells] ∧ b.Ok ∧ (∃ y, b.dr = y * 2) ∧ cells ≤ 1000 ∧ n ≤ 9999 ∧ ∀ m (f : Int) (ls : List Int), m ≤ n + 2 + 10 * cells → (f = 0 ∨ f = 1260 ∨ f = -1080) → ls.length = cells → Ride b.cell b.dr ls → K m (.tup [pr (fr f), .tup (frs ls)])
set_option maxHeartbeats 1000000 in
theorem ok_telling (B : Bt mg) (d : Df K mg "_law_telling" s_law_telling ["_law_bag_here", "_law_bounds", "_law_cells_here"]) (gs : FnY P w K mg base "_law_some" 2 F_some) (gr : FnY P w K mg base "_law_ride" 4 F_ride) : FnY P w K mg base "_law_telling" 5 F_telling := by
  refine fnY d sc_law_telling (by rintro M n ds Kp ⟨b, c, _, _, _, rfl, _⟩; rfl) fun f cdv A outer s0 H E M n Kp ds hr h => ?_
  obtain ⟨bb, c, b, cells, hB, rfl, hb, hdh, r2, n1, hk⟩ := h
  have h2 : Room 2 (XC P w K mg base n_law_telling "_law_telling" s_law_telling f cdv A outer s0 H E).A := hr.mono (by decide)
  refine yss_nn fun nn => ?_
  refine yss_one (ys_ret (y_tup (ya_cons (y_call gs h2 (ya_cons (y_v 0 rfl (ya_cons (y_lst ?_)))))))) 
  refine ya_cons (y_pair (y_int (y_int ⟨_, _, rfl, rfl, ?_⟩)))
  refine ya_cons (y_pair (y_int (y_int ⟨_, _, rfl, rfl, ?_⟩)))
  refine ya_cons (y_pair (y_neg (y_int ⟨_, rfl, y_int ⟨_, _, rfl, rfl, ?_⟩⟩)))
  refine ya_nil ⟨by show 3 ≤ 1000; decide, ?_⟩
  refine ya_nil ⟨bb, c, _, hB, rfl, by show 1 ≤ 3; decide, by show 3 ≤ 1000; decide, nn, by omega, fun m0 w0 a1 a2 hw => ?_⟩
  obtain ⟨g, rfl, hg⟩ : ∃ g, w0 = pr (fr g) ∧ (g = 0 ∨ g = 1260 ∨ g = -1080) := by
    simp only [List.mem_cons, List.not_mem_nil, or_false] at hw
    rcases hw with rfl | rfl | rfl
    · exact ⟨0, rfl, .inl rfl⟩
    · exact ⟨1260, rfl, .inr (.inl rfl)⟩
    · exact ⟨-1080, rfl, .inr (.inr rfl)⟩
  refine ⟨rfl, ?_⟩
  refine ya_cons (y_call gr hr (ya_cons (y_v 0 rfl (ya_cons (y_v 1 rfl (ya_cons (y_v 2 rfl (ya_nil ?_))))))))
  exact ⟨bb, c, b, cells, hB, rfl, hb, hdh, r2, by omega, fun m ls hm hl hr => ⟨imm_frs ls, ya_nil ⟨by show 2 ≤ 1000; decide, hk m g ls (by omega) hg hl hr⟩⟩⟩
end
end FL
end
section
set_option Elab.async false
set_option linter.all false
set_option maxRecDepth 100000
set_option pp.maxSteps 300
/-! The shifts. -/
namespace FL
open PySem PySem.Spec PyProof.Rows L2 FM
section
variable {P : Program} {w : World} {K : PySem.W.Frag} {mg : Str → Option Value} {base : Heap}
theorem red_frN {x : Int} {k y : Int} (hk : 0 < k) (h : -x = y * k) : red (-(fr x).1) ((fr x).2 * k) = fr y := by
  have v := V.fr x
  refine red_eq (Int.mul_pos v.pos hk) (by decide) ?_
  have e := v.val
  have h' : x = -(y * k) := by omega
  subst h'
  refine Int.eq_of_mul_eq_mul_right (Int.ne_of_gt hk) ?_
  grind
def F_shifts : Md → Int → List D → (Int → D → Prop) → Prop := fun M n ds K => ∃ (bb c : Addr) (b : Pm) (marks : Nat), M.B = some (bb, c) ∧ ds = [.ref bb, bD b, .int marks] ∧ b.Ok ∧ (∃ y, b.sh = y * 6) ∧ marks ≤ 1000 ∧ n ≤ 100000 ∧ ∀ m (ls : List Int), m ≤ n + marks → ls.length = marks → (∀ x ∈ ls, -b.sh ≤ x ∧ x ≤ b.sh) → K m (.tup (frs ls))
set_option maxHeartbeats 2000000 in
theorem ok_shifts (B : Bt mg) (d : Df K mg "_law_shifts" s_law_shifts ["_law_bag_here", "_law_bounds", "_law_marks"]) (gs : FnY P w K mg base "_law_some" 2 F_some) (gp : FnR P w K mg base "_law_part" 2 F_red) (gm : FnR P w K mg base "_law_many" 3 F_many) : FnY P w K mg base "_law_shifts" 4 F_shifts := by
  refine fnY d sc_law_shifts (by rintro M n ds Kp ⟨b, c, _, _, _, rfl, _⟩; rfl) fun f cdv A outer s0 H E M n Kp ds hr h => ?_
  obtain ⟨bb, c, b, marks, hB, rfl, hb, ⟨t, ht⟩, r2, n1, hk⟩ := h
  have nd := sc_law_shifts.nd
  have h2 : Room 2 (XC P w K mg base n_law_shifts "_law_shifts" s_law_shifts f cdv A outer s0 H E).A := hr.mono (by decide)
  have bs := hb.bs
  have s1 := hb.s1
  have u2 : Sm 2 2 := Sm.of (a := 2) (x := 2) 2 (by decide)
  have u3 : Sm 2 3 := Sm.of (a := 2) (x := 3) 3 (by decide)
  refine yss_nn fun nn => ?_
  refine yss_cons (ys_set 3 (y_ix (y_v 1 rfl (y_int ⟨_, _, pr (fr b.sh), .inl rfl, rfl, rfl, ?_⟩))) nd)
  refine yss_cons (ys_setLst 4 (ya_cons (y_pair (y_int (y_int ⟨_, _, rfl, rfl, ya_cons (y_v 3 rfl ?_)⟩)))) nd)
  refine ya_cons (y_old gm hr (ya_cons (y_v 3 rfl (ya_cons (y_neg (y_int ⟨1, rfl, ya_nil ⟨_, _, rfl, bs.mono (by decide), (Sm.of (a := 2) (x := -1) 1 (by decide)).mono (by decide), rfl, ?_⟩⟩))))))
  rw [many_fr]
  refine ya_cons (y_old gp h2 (ya_cons (y_ix (y_v 3 rfl (y_int ⟨_, _, .int (fr b.sh).1, .inl rfl, rfl, rfl, ?_⟩)))))
  refine ya_cons (y_mul (y_ix (y_v 3 rfl (y_int ⟨_, _, .int (fr b.sh).2, .inl rfl, rfl, rfl, y_int ⟨_, _, rfl, rfl, mulOk bs.d u2, ?_⟩⟩))))
  refine ya_nil ⟨_, _, rfl, Int.mul_pos bs.pos (by decide), (bs.d.mul u2).mono (by decide), rfl, ?_⟩
  rw [red_fr (y := t * 3) (by decide) (by omega)]
  refine ya_nil ⟨by show 4 ≤ 1000; decide, ?_⟩
  refine yss_cons (ys_app 4 rfl (by show 4 ≤ 1000000; decide) (y_old gp h2 (ya_cons (y_neg (y_ix (y_v 3 rfl (y_int ⟨_, _, .int (fr b.sh).1, .inl rfl, rfl, rfl, _, rfl, ?_⟩)))))))
  refine ya_cons (y_mul (y_ix (y_v 3 rfl (y_int ⟨_, _, .int (fr b.sh).2, .inl rfl, rfl, rfl, y_int ⟨_, _, rfl, rfl, mulOk bs.d u3, ?_⟩⟩))))
  refine ya_nil ⟨_, _, rfl, Int.mul_pos bs.pos (by decide), (bs.d.mul u3).mono (by decide), rfl, ?_⟩
  rw [red_frN (y := -(t * 2)) (by decide) (by omega)]
  refine yss_freeze 4 rfl (yss_one (ys_ret (y_tupOf B.tuple (y_lc 5 (blk (by rfl)) nd B.range (y_v 2 rfl ⟨marks, 1, rfl, by omega, fun i d => ∃ x : Int, d = pr (fr x) ∧ -b.sh ≤ x ∧ x ≤ b.sh, fun i d ⟨x, e, _⟩ => by rw [e]; rfl, fun i n' hi hn => ?_, fun n2 ds hn dl dh => ⟨ds, rfl, ?_⟩⟩)))))
  · intro s H c' cl fp
    refine y_nn fun hn0 => ?_
    have hi2 : (i : Int) < marks := by omega
    refine y_call gs h2 (ya_cons (y_v 0 rfl (ya_cons (y_v 4 rfl (ya_nil ⟨bb, c, _, hB, rfl, by show 1 ≤ 5; decide, by show 5 ≤ 1000; decide, hn0, by omega, fun m d l1 l2 hd => ?_⟩)))))
    have key : ∃ x : Int, d = pr (fr x) ∧ -b.sh ≤ x ∧ x ≤ b.sh := by
      have hd' : d = pr (0, 1) ∨ d = pr (fr b.sh) ∨ d = pr (fr (b.sh * -1)) ∨ d = pr (fr (t * 3)) ∨ d = pr (fr (-(t * 2))) := by
        simpa using hd
      rcases hd' with e | e | e | e | e
      · exact ⟨0, e, by omega, by omega⟩
      all_goals exact ⟨_, e, by omega, by omega⟩
    exact ⟨by obtain ⟨x, e, _⟩ := key; rw [e]; rfl, key, by omega⟩
  · obtain ⟨ls, rfl, hls⟩ : ∃ ls : List Int, ds = frs ls ∧ ∀ x ∈ ls, -b.sh ≤ x ∧ x ≤ b.sh := by
      have all : ∀ d ∈ ds, ∃ x : Int, d = pr (fr x) ∧ -b.sh ≤ x ∧ x ≤ b.sh := fun d hd => by
        obtain ⟨i, hi⟩ := List.getElem?_of_mem hd
        exact dh i d hi
      clear dl dh
      induction ds with
      | nil => exact ⟨[], rfl, fun x h => (by cases h)⟩
      | cons d ds ih =>
        obtain ⟨ls, e, h⟩ := ih fun d hd => all d (List.mem_cons_of_mem _ hd)
        obtain ⟨x, e2, h2⟩ := all d (List.mem_cons_self ..)
        refine ⟨x :: ls, by rw [e, e2]; rfl, fun y hy => ?_⟩
        rcases List.mem_cons.mp hy with rfl | hy
        · exact h2
        · exact h y hy
    rw [frs_len] at dl
    exact hk n2 ls (by omega) dl hls
end
end FL
end
section
set_option Elab.async false
set_option linter.all false
set_option maxRecDepth 100000
set_option pp.maxSteps 300
/-! A tuple times one. -/
namespace FL
open PySem PySem.Spec PyProof.Rows L2
set_option maxHeartbeats 4000000 in
theorem tuple_mul1W (l : Addr) (items : Array Value) (n : Nat) (dd : Option Addr) (sl : Array (Option Value)) (uu : Tok) :
    Meets (Builtin.«tuple.__mul__» ⟨[.ref l, .int 1 uu], []⟩) (fun _ R s => s.heap.get? l = some { cls := .type "tuple", dict := dd, data := .seq items n, slots := sl } ∧ R (.ok (.ret (.ref l))) s) :=
  .of_wp fun prog w A R s0 hin => by
    obtain ⟨hea, g, d, tk, os⟩ := s0
    obtain ⟨hl, h⟩ := hin
    have f1 := AutoSeq1.idx_int
    wp_walk using (wpAny_loadPart' hl)
    exact ⟨_, rfl, h⟩
def rRepT1 (K : PySem.W.Frag) : R2 := fun x y H Q => ∃ l xs, x = .ref l ∧ y = .int 1 ∧ SqT K H l xs ∧ Q (.ref l) H
section
variable {X : Cx}
set_option maxHeartbeats 4000000 in
theorem op_repT1 : OpR X (binaryOp .Mult) (rRepT1 X.K) := by
  intro pins s σ H x y v uu Q I rx ry h
  obtain ⟨l, xs, rfl, rfl, hT, q⟩ := h
  cases rx
  obtain ⟨t, rfl⟩ := ry
  obtain ⟨vals, r, ⟨⟨cls, dd, data, sl⟩, ho, hc, n, hd⟩, hs⟩ := I.tuple hT
  simp only at hc hd
  subst hc hd
  refine wpAny_binaryOp_repeat_ref (T := "tuple") (U := "int") (by decide) ⟨_, ho, rfl⟩ (fun s' => typeIs_int s' 1 t) noFill_tuple_mul F.fills_int_mul F.slot_int_rmul repeat_tuple F.slot_int_index.lookup
    (call_meets F.slot_int_rmul (typeIs_int s 1 t) F.entry_int_rmul (F.args_int_rmul_2 _ _) (int_rmul_tuple 1 t l vals.toArray n dd sl)
      ⟨ho, rfl, ⟨_, ho, rfl⟩, call_meets F.slot_tuple_mul ⟨_, ho, rfl⟩ F.entry_tuple_mul (F.args_tuple_mul_2 _ _) (tuple_mul1W l vals.toArray n dd sl t) ⟨ho, ?_⟩⟩)
  exact ⟨.ref l, _, I, rfl, q⟩
def rRepB (K : PySem.W.Frag) : R2 := fun x y H Q => rRepT K x y H Q ∨ rRepT1 K x y H Q
theorem op_repB : OpR X (binaryOp .Mult) (rRepB X.K) := by
  intro pins s σ H x y v uu Q I rx ry h
  rcases h with h | h
  · exact op_repT pins s σ H x y v uu Q I rx ry h
  · exact op_repT1 pins s σ H x y v uu Q I rx ry h
end
end FL
end
section
set_option Elab.async false
set_option linter.all false
set_option maxRecDepth 100000
set_option pp.maxSteps 300
namespace FL
open PySem PySem.Spec PyProof.Rows L2
section
variable {X : Cx} {C : Cn} {G : List SD} {K : D → Prop} {a b : Expr} {pos : Pos}
theorem w_rep (h : W X C G a fun da => W X C G b fun db => ∃ i k, da = .tup [.int i] ∧ db = .int k ∧ 1 ≤ k ∧ k ≤ 1000 ∧ K (.tup (List.replicate k.toNat (.int i)))) : W X C G (.BinOp a .Mult b pos) K :=
  w_two (pe_op op_repB pwE pwE) h fun A H x y da db Q j hx hy k q av => by
    obtain ⟨i, kk, rfl, rfl, k1, k2, k⟩ := k
    obtain ⟨p, xs, rfl, hp, hL⟩ : ∃ p xs, x = .ref p ∧ H p = some (.tup xs) ∧ HasL _ H [.int i] xs := hx
    obtain rfl : y = .int kk := hy
    obtain ⟨z, rfl, hz⟩ := HasL.one' hL
    obtain rfl : z = .int i := hz
    by_cases c : kk = 1
    · subst c
      exact .inr ⟨p, _, rfl, rfl, SqT.of hp, q (.tup [.int i]) _ H R.refl j ⟨p, _, rfl, hp, hL⟩ k⟩
    · refine .inl ⟨p, kk, _, rfl, rfl, SqT.of hp, by simp, by omega, k2, by simp, fun l hl => ?_⟩
      have r2 : R C.M H (upd H l (.tup (List.replicate kk.toNat [(.int i : L2.V)]).flatten)) := R.new hl
      refine q (.tup (List.replicate kk.toNat (.int i))) _ _ r2 (j.new hl) ⟨l, _, rfl, upd_same, ?_⟩ k
      have e : ∀ n : Nat, (List.replicate n [(.int i : L2.V)]).flatten = List.replicate n (.int i) := fun n => by
        induction n with
        | zero => rfl
        | succ n ih => rw [List.replicate_succ, List.flatten_cons, ih]; rfl
      rw [e]
      have go : ∀ (N : Addr → Prop) (H2 : Hp) (n : Nat), HasL N H2 (List.replicate n (.int i)) (List.replicate n (.int i)) := fun N H2 n => by
        induction n with
        | zero => exact rfl
        | succ n ih => exact ⟨_, _, rfl, hasI, ih⟩
      exact go _ _ _
end
end FL
end
section
set_option Elab.async false
set_option linter.all false
set_option maxRecDepth 100000
set_option pp.maxSteps 300
/-! The lead. -/
namespace FL
open PySem PySem.Spec PyProof.Rows L2 FM
section
variable {P : Program} {w : World} {K : PySem.W.Frag} {mg : Str → Option Value} {base : Heap}
def F_llead : Md → List D → (D → Prop) → Prop := fun M ds K => ∃ b : Pm, ds = [bD b] ∧ b.Ok ∧ K (.tup (List.replicate b.p.toNat (.int b.K)))
theorem ok_llead (d : Df K mg "_law_lead" s_law_lead ["_law_bounds"]) : FnR P w K mg base "_law_lead" 1 F_llead := by
  refine fnD d sc_law_lead (by rintro M ds Kp ⟨b, rfl, _⟩; rfl) fun f cdv A outer s H E M Kp ds hr h => ?_
  obtain ⟨b, rfl, hb, k⟩ := h
  have p1 := hb.p1
  have p2 := hb.p2
  refine wss_one (ws_ret (w_rep (w_tup (wa_cons (w_ix (w_v 0 rfl (w_int ⟨_, _, .int b.K, .inl rfl, rfl, rfl, wa_nil ?_⟩)))))))
  refine ⟨by show 1 ≤ 1000; decide, w_ix (w_v 0 rfl (w_int ⟨_, _, .int b.p, .inl rfl, rfl, rfl, _, _, rfl, rfl, p1, by omega, k⟩))⟩
end
end FL
end
section
set_option Elab.async false
set_option linter.all false
/-! The hull, plain. -/
namespace FM
def crs (u v : Pt) : Int := u.1 * v.2 - u.2 * v.1
def dif (b a : Pt) : Pt := (b.1 - a.1, b.2 - a.2)
def LP (u : Pt) : Prop := 0 < u.1 ∨ (u.1 = 0 ∧ 0 < u.2)
def val (α β : Int) (p : Pt) : Int := α * p.1 + β * p.2
theorem lp_dif {a b : Pt} (h : Lex a b) : LP (dif b a) := by
  unfold Lex at h; unfold LP dif; simp only; omega
theorem crs_trans {u v w : Pt} (hu : LP u) (hv : LP v) (hw : LP w) (h1 : 0 ≤ crs u v) (h2 : 0 < crs v w) : 0 < crs u w := by
  unfold crs LP at *
  obtain ⟨a, b⟩ := u
  obtain ⟨c, d⟩ := v
  obtain ⟨e, f⟩ := w
  simp only at *
  rcases hv with hc | ⟨hc, hd⟩
  · -- c * (a f - b e) = a (c f - d e) + e (a d - b c)
    have id : c * (a * f - b * e) = a * (c * f - d * e) + e * (a * d - b * c) := by grind
    have e0 : 0 ≤ e := by omega
    have a0 : 0 ≤ a := by omega
    have k2 : 0 ≤ e * (a * d - b * c) := Int.mul_nonneg e0 h1
    by_cases ha : 0 < a
    · have k1 : 0 < a * (c * f - d * e) := Int.mul_pos ha h2
      exact Int.pos_of_mul_pos_right (by rw [id]; omega) (by omega)
    · have a1 : a = 0 := by omega
      subst a1
      have b0 : 0 < b := by omega
      have : 0 < b * c := Int.mul_pos b0 hc
      omega
  · subst hc
    have : e = 0 := by
      rcases hw with he | ⟨he, _⟩
      · have := Int.mul_pos hd he
        omega
      · exact he
    subst this
    omega
theorem crs_trans' {u v w : Pt} (hu : LP u) (hv : LP v) (hw : LP w) (h1 : 0 < crs u v) (h2 : 0 < crs v w) : 0 < crs u w := crs_trans hu hv hw (Int.le_of_lt h1) h2
theorem trn_crs (a b c : Pt) : trn a b c = crs (dif b a) (dif c b) := by
  unfold trn crs dif; simp only; grind
/-- edges of a chain that is kept back to front -/
def eds : List Pt → List (Pt × Pt)
  | b :: a :: r => (a, b) :: eds (a :: r)
  | _ => []
def vec (e : Pt × Pt) : Pt := dif e.2 e.1
structure Good (h : List Pt) : Prop where
  srt : h.Pairwise fun c b => Lex b c
  cnv : (eds h).Pairwise fun e e' => 0 < crs (vec e') (vec e)
theorem Good.tail {b : Pt} {r : List Pt} (g : Good (b :: r)) : Good r := by
  refine ⟨(List.pairwise_cons.mp g.srt).2, ?_⟩
  cases r with
  | nil => exact .nil
  | cons a r => exact (List.pairwise_cons.mp g.cnv).2
theorem eds_lex {h : List Pt} (g : h.Pairwise fun c b => Lex b c) : ∀ e ∈ eds h, Lex e.1 e.2 := by
  induction h with
  | nil => intro e he; cases he
  | cons b r ih =>
    cases r with
    | nil => intro e he; cases he
    | cons a r =>
      intro e he
      have he : e ∈ (a, b) :: eds (a :: r) := he
      rcases List.mem_cons.mp he with rfl | he
      · exact (List.pairwise_cons.mp g).1 a List.mem_cons_self
      · exact ih (List.pairwise_cons.mp g).2 e he
theorem eds_mem {h : List Pt} : ∀ e ∈ eds h, e.1 ∈ h ∧ e.2 ∈ h := by
  induction h with
  | nil => intro e he; cases he
  | cons b r ih =>
    cases r with
    | nil => intro e he; cases he
    | cons a r =>
      intro e he
      have he : e ∈ (a, b) :: eds (a :: r) := he
      rcases List.mem_cons.mp he with rfl | he
      · exact ⟨List.mem_cons_of_mem _ List.mem_cons_self, List.mem_cons_self⟩
      · exact ⟨List.mem_cons_of_mem _ (ih e he).1, List.mem_cons_of_mem _ (ih e he).2⟩
theorem popS_suf (x : Pt) : ∀ h : List Pt, popS x h <:+ h
  | [] => List.suffix_refl _
  | [_] => List.suffix_refl _
  | b :: a :: r => by
    unfold popS
    split
    · exact (popS_suf x (a :: r)).trans (List.suffix_cons _ _)
    · exact List.suffix_refl _
theorem popS_ne (x : Pt) : ∀ h : List Pt, h ≠ [] → popS x h ≠ []
  | [], z => absurd rfl z
  | [_], _ => by simp [popS]
  | b :: a :: r, _ => by
    unfold popS
    split
    · exact popS_ne x (a :: r) (by simp)
    · simp
theorem Good.pop {x : Pt} : ∀ {h : List Pt}, Good h → Good (popS x h)
  | [], g => g
  | [_], g => g
  | b :: a :: r, g => by
    unfold popS
    split
    · exact Good.pop g.tail
    · exact g
theorem popS_top {x : Pt} : ∀ {h : List Pt}, ∀ b a r, popS x h = b :: a :: r → 0 < trn a b x
  | [], b, a, r, e => by simp [popS] at e
  | [_], b, a, r, e => by simp [popS] at e
  | b' :: a' :: r', b, a, r, e => by
    unfold popS at e
    split at e
    · exact popS_top b a r e
    · rename_i h
      injection e with e1 e2
      injection e2 with e2 e3
      subst e1 e2
      omega
theorem Good.step {x : Pt} {h : List Pt} (g : Good h) (hx : ∀ y ∈ h, Lex y x) : Good (halfS h x) := by
  have g' := g.pop (x := x)
  have hm : ∀ y ∈ popS x h, Lex y x := fun y hy => hx y ((popS_suf x h).subset hy)
  unfold halfS
  refine ⟨List.pairwise_cons.mpr ⟨hm, g'.srt⟩, ?_⟩
  cases q : popS x h with
  | nil => exact .nil
  | cons b r =>
    show List.Pairwise _ ((b, x) :: eds (b :: r))
    rw [q] at g' hm
    refine List.pairwise_cons.mpr ⟨fun e he => ?_, g'.cnv⟩
    cases r with
    | nil => cases he
    | cons a r =>
      have t := popS_top b a r q
      rw [trn_crs] at t
      have he : e ∈ (a, b) :: eds (a :: r) := he
      rcases List.mem_cons.mp he with rfl | he
      · exact t
      · have c1 := (List.pairwise_cons.mp g'.cnv).1 e he
        have l1 := eds_lex g'.srt e (List.mem_cons_of_mem _ he)
        have l2 := eds_lex g'.srt (a, b) List.mem_cons_self
        exact crs_trans' (lp_dif l1) (lp_dif l2) (lp_dif (hm b List.mem_cons_self)) c1 t
/-- all of a chain is left of each of its edges -/
theorem good_v : ∀ {l : List Pt} {a : Pt} {v : Pt}, (∀ e ∈ eds (a :: l), 0 ≤ crs (vec e) v) → ∀ z ∈ a :: l, 0 ≤ crs v (dif z a)
  | [], a, v, h, z, hz => by
    obtain rfl := List.mem_singleton.mp hz
    unfold crs dif; simp only; grind
  | b :: r, a, v, h, z, hz => by
    rcases List.mem_cons.mp hz with rfl | hz
    · unfold crs dif; simp only; grind
    · have h1 := h (b, a) List.mem_cons_self
      have h2 := good_v (l := r) (a := b) (v := v) (fun e he => h e (List.mem_cons_of_mem _ he)) z hz
      unfold crs vec dif at *
      simp only at *
      grind
theorem Good.left : ∀ {h : List Pt}, Good h → ∀ e ∈ eds h, ∀ z ∈ h, 0 ≤ trn e.1 e.2 z
  | [], _, e, he, _, _ => by cases he
  | [_], _, e, he, _, _ => by cases he
  | c :: b :: r, g, e, he, z, hz => by
    have he : e ∈ (b, c) :: eds (b :: r) := he
    have hp := List.pairwise_cons.mp g.cnv
    rcases List.mem_cons.mp he with rfl | he2
    · rcases List.mem_cons.mp hz with rfl | hz
      · unfold trn; simp only; grind
      · have := good_v (l := r) (a := b) (v := dif c b) (fun e he => Int.le_of_lt (hp.1 e he)) z hz
        unfold crs dif trn at *
        simp only at *
        grind
    · rcases List.mem_cons.mp hz with rfl | hz
      · have h1 := g.tail.left e he2 b List.mem_cons_self
        have h2 := hp.1 e he2
        unfold crs vec dif trn at *
        simp only at *
        grind
      · exact g.tail.left e he2 z hz
/-! what is popped is no farther out -/
theorem pop_dom {α β : Int} {a b x : Pt} (hβ : β ≤ 0) (h1 : Lex a b) (h2 : Lex b x) (t : trn a b x ≤ 0) : val α β b ≤ val α β a ∨ val α β b ≤ val α β x := by
  obtain ⟨a1, a2⟩ := a
  obtain ⟨b1, b2⟩ := b
  obtain ⟨x1, x2⟩ := x
  unfold trn Lex val at *
  simp only at *
  by_cases hd : a1 = x1
  · have : b1 = a1 := by omega
    subst this hd
    left
    have : β * b2 ≤ β * a2 := Int.mul_le_mul_of_nonpos_left hβ (by omega)
    omega
  · have d0 : 0 < x1 - a1 := by omega
    have u0 : 0 ≤ b1 - a1 := by omega
    have ud : 0 ≤ x1 - b1 := by omega
    have k : 0 ≤ -β * ((b2 - a2) * (x1 - a1) - (b1 - a1) * (x2 - a2)) := Int.mul_nonneg (by omega) (by omega)
    by_cases hg : 0 ≤ α * (x1 - a1) + β * (x2 - a2)
    · right
      have k2 := Int.mul_nonneg ud hg
      have k3 : 0 ≤ (x1 - a1) * (α * x1 + β * x2 - (α * b1 + β * b2)) := by grind
      have := Int.nonneg_of_mul_nonneg_right k3 d0
      omega
    · left
      have k2 : 0 ≤ (b1 - a1) * -(α * (x1 - a1) + β * (x2 - a2)) := Int.mul_nonneg u0 (by omega)
      have k3 : 0 ≤ (x1 - a1) * (α * a1 + β * a2 - (α * b1 + β * b2)) := by grind
      have := Int.nonneg_of_mul_nonneg_right k3 d0
      omega
theorem popS_dom {α β : Int} {x : Pt} (hβ : β ≤ 0) : ∀ {h : List Pt}, h.Pairwise (fun c b => Lex b c) → (∀ y ∈ h, Lex y x) → ∀ v ∈ h, ∃ w ∈ x :: popS x h, val α β v ≤ val α β w
  | [], _, _, v, hv => by cases hv
  | [a], _, _, v, hv => ⟨v, List.mem_cons_of_mem _ (by simpa [popS] using hv), Int.le_refl _⟩
  | b :: a :: r, g, hx, v, hv => by
    unfold popS
    split
    · rename_i t
      have ih := popS_dom (α := α) hβ (h := a :: r) (List.pairwise_cons.mp g).2 (fun y hy => hx y (List.mem_cons_of_mem _ hy))
      rcases List.mem_cons.mp hv with rfl | hv
      · rcases pop_dom (α := α) hβ ((List.pairwise_cons.mp g).1 a List.mem_cons_self) (hx v List.mem_cons_self) t with q | q
        · obtain ⟨w, hw, e⟩ := ih a List.mem_cons_self
          exact ⟨w, hw, by omega⟩
        · exact ⟨x, List.mem_cons_self, q⟩
      · exact ih v hv
    · exact ⟨v, List.mem_cons_of_mem _ hv, Int.le_refl _⟩
/-! the whole half -/
structure HalfOk (L h : List Pt) : Prop where
  good : Good h
  sub : ∀ x ∈ h, x ∈ L
  dom : ∀ α β : Int, β ≤ 0 → ∀ z ∈ L, ∃ v ∈ h, val α β z ≤ val α β v
  hd : h.head? = L.getLast?
  lst : h.getLast? = L.head?
theorem HalfOk.step {L h : List Pt} {x : Pt} (H : HalfOk L h) (hx : ∀ y ∈ L, Lex y x) : HalfOk (L ++ [x]) (halfS h x) where
  good := H.good.step fun y hy => hx y (H.sub y hy)
  sub := fun y hy => by
    rcases List.mem_cons.mp hy with rfl | hy
    · simp
    · exact List.mem_append_left _ (H.sub y ((popS_suf x h).subset hy))
  dom := fun α β hβ z hz => by
    rcases List.mem_append.mp hz with hz | hz
    · obtain ⟨v, hv, e⟩ := H.dom α β hβ z hz
      obtain ⟨w, hw, e2⟩ := popS_dom (α := α) hβ H.good.srt (fun y hy => hx y (H.sub y hy)) v hv
      exact ⟨w, hw, by omega⟩
    · obtain rfl := List.mem_singleton.mp hz
      exact ⟨z, List.mem_cons_self, Int.le_refl _⟩
  hd := by simp [halfS]
  lst := by
    unfold halfS
    cases L with
    | nil =>
      have : h = [] := by
        cases h with
        | nil => rfl
        | cons a r => exact absurd (H.sub a List.mem_cons_self) (by simp)
      subst this
      rfl
    | cons a r =>
      have hn : h ≠ [] := by
        intro z
        subst z
        have := H.lst
        simp at this
      obtain ⟨s, hs⟩ := popS_suf x h
      have pn := popS_ne x h hn
      have : (x :: popS x h).getLast? = h.getLast? := by
        rw [List.getLast?_cons_of_ne_nil pn]
        conv => rhs; rw [← hs]
        rw [List.getLast?_append, Option.or_of_isSome (by rw [List.getLast?_isSome]; exact pn)]
      rw [this, H.lst]
      rfl
theorem halfOk_fold : ∀ (R L h : List Pt), HalfOk L h → (L ++ R).Pairwise Lex → HalfOk (L ++ R) (R.foldl halfS h)
  | [], L, h, H, _ => by simpa using H
  | x :: R, L, h, H, p => by
    have p' : (L ++ [x] ++ R).Pairwise Lex := by simpa using p
    have hx : ∀ y ∈ L, Lex y x := fun y hy => (List.pairwise_append.mp p).2.2 y hy x List.mem_cons_self
    have := halfOk_fold R (L ++ [x]) (halfS h x) (H.step hx) p'
    simpa using this
theorem halfOk {L : List Pt} (p : L.Pairwise Lex) : HalfOk L (L.foldl halfS []) := by
  have := halfOk_fold L [] [] ⟨⟨.nil, .nil⟩, (fun _ h => nomatch h), (fun _ _ _ _ h => nomatch h), rfl, rfl⟩ (by simpa using p)
  simpa using this
end FM
end
section
set_option Elab.async false
set_option linter.all false
/-! Both halves. -/
namespace FM
def ng (p : Pt) : Pt := (-p.1, -p.2)
theorem ng_ng (p : Pt) : ng (ng p) = p := by unfold ng; simp
theorem trn_ng (a b c : Pt) : trn (ng a) (ng b) (ng c) = trn a b c := by unfold trn ng; simp only; grind
theorem lex_ng {a b : Pt} : Lex (ng a) (ng b) ↔ Lex b a := by unfold Lex ng; simp only; omega
theorem popS_ng (x : Pt) : ∀ h : List Pt, popS (ng x) (h.map ng) = (popS x h).map ng
  | [] => rfl
  | [_] => rfl
  | b :: a :: r => by
    show popS (ng x) (ng b :: ng a :: r.map ng) = _
    unfold popS
    rw [trn_ng]
    split
    · exact popS_ng x (a :: r)
    · rfl
theorem fold_ng : ∀ (L h : List Pt), (L.map ng).foldl halfS (h.map ng) = (L.foldl halfS h).map ng
  | [], h => rfl
  | x :: L, h => by
    show (L.map ng).foldl halfS (halfS (h.map ng) (ng x)) = (L.foldl halfS (halfS h x)).map ng
    rw [← fold_ng L]
    unfold halfS
    rw [popS_ng]
    rfl
theorem eds_ng : ∀ h : List Pt, eds (h.map ng) = (eds h).map fun e => (ng e.1, ng e.2)
  | [] => rfl
  | [_] => rfl
  | b :: a :: r => by
    show (ng a, ng b) :: eds ((a :: r).map ng) = _
    rw [eds_ng (a :: r)]
    rfl
/-- a half chain, front to back, whichever way it goes: what is wanted of it -/
structure Chain (L c : List Pt) (up : Bool) : Prop where
  sub : ∀ x ∈ c, x ∈ L
  dom : ∀ α β : Int, (if up then 0 ≤ β else β ≤ 0) → ∀ z ∈ L, ∃ v ∈ c, val α β z ≤ val α β v
  left : ∀ i (h : i + 1 < c.length), ∀ z ∈ L, 0 ≤ trn c[i] c[i + 1] z
  cnv : ∀ i j (h : i < j) (h2 : j + 1 < c.length), 0 < crs (dif c[i + 1] c[i]) (dif c[j + 1] c[j])
  ord : ∀ i (h : i + 1 < c.length), if up then Lex c[i + 1] c[i] else Lex c[i] c[i + 1]
theorem eds_len : ∀ h : List Pt, (eds h).length = h.length - 1
  | [] => rfl
  | [_] => rfl
  | b :: a :: r => by
    show (eds (a :: r)).length + 1 = _
    rw [eds_len (a :: r)]
    simp
theorem eds_get : ∀ (h : List Pt) (i : Nat) (hi : i + 1 < h.length), (eds h)[i]? = some (h[i + 1], h[i])
  | b :: a :: r, 0, _ => rfl
  | b :: a :: r, i + 1, hi => by
    show (eds (a :: r))[i]? = _
    rw [eds_get (a :: r) i (by simpa using hi)]
    rfl
theorem HalfOk.left {L h : List Pt} (H : HalfOk L h) : ∀ e ∈ eds h, ∀ z ∈ L, 0 ≤ trn e.1 e.2 z := by
  intro e he z hz
  have lx := eds_lex H.good.srt e he
  obtain ⟨v, hv, q⟩ := H.dom (e.2.2 - e.1.2) (-(e.2.1 - e.1.1)) (by unfold Lex at lx; omega) z hz
  have := H.good.left e he v hv
  unfold trn val at *
  grind
theorem HalfOk.chain {L h : List Pt} (H : HalfOk L h) : Chain L h.reverse false := by
  have key : ∀ i (hi : i + 1 < h.reverse.length), (h.reverse[i], h.reverse[i + 1]) ∈ eds h ∧ (eds h)[h.length - 2 - i]? = some (h.reverse[i], h.reverse[i + 1]) := by
    intro i hi
    rw [List.length_reverse] at hi
    have := eds_get h (h.length - 2 - i) (by omega)
    rw [List.getElem_reverse, List.getElem_reverse]
    have e1 : h.length - 1 - i = h.length - 2 - i + 1 := by omega
    have e2 : h.length - 1 - (i + 1) = h.length - 2 - i := by omega
    simp only [e1, e2]
    exact ⟨List.mem_of_getElem? this, this⟩
  refine ⟨fun x hx => H.sub x (List.mem_reverse.mp hx), fun α β hβ z hz => ?_, fun i hi z hz => ?_, fun i j hij hj => ?_, fun i hi => ?_⟩
  · obtain ⟨v, hv, q⟩ := H.dom α β (by simpa using hβ) z hz
    exact ⟨v, List.mem_reverse.mpr hv, q⟩
  · exact H.left _ (key i hi).1 z hz
  · have k1 := (key i (by omega)).2
    have k2 := (key j hj).2
    have hp := H.good.cnv
    rw [List.length_reverse] at hj
    rw [List.pairwise_iff_getElem] at hp
    obtain ⟨a1, b1⟩ := List.getElem?_eq_some_iff.mp k1
    obtain ⟨a2, b2⟩ := List.getElem?_eq_some_iff.mp k2
    have := hp (h.length - 2 - j) (h.length - 2 - i) a2 a1 (by omega)
    rw [b1, b2] at this
    exact this
  · have := eds_lex H.good.srt _ (key i hi).1
    simpa using this
theorem Chain.ng {L c : List Pt} (C : Chain (L.map FM.ng) c false) : Chain L (c.map FM.ng) true := by
  have mem : ∀ {x : Pt}, x ∈ L.map FM.ng → FM.ng x ∈ L := fun {x} h => by
    obtain ⟨y, hy, rfl⟩ := List.mem_map.mp h
    rw [ng_ng]; exact hy
  refine ⟨fun x hx => ?_, fun α β hβ z hz => ?_, fun i hi z hz => ?_, fun i j hij hj => ?_, fun i hi => ?_⟩
  · obtain ⟨y, hy, rfl⟩ := List.mem_map.mp hx
    exact mem (C.sub y hy)
  · obtain ⟨v, hv, q⟩ := C.dom (-α) (-β) (by simp at hβ ⊢; omega) (FM.ng z) (List.mem_map_of_mem hz)
    refine ⟨FM.ng v, List.mem_map_of_mem hv, ?_⟩
    unfold val FM.ng at *
    simp only at *
    grind
  · rw [List.length_map] at hi
    have := C.left i hi (FM.ng z) (List.mem_map_of_mem hz)
    rw [← trn_ng] at this
    simpa [ng_ng] using this
  · rw [List.length_map] at hj
    have := C.cnv i j hij hj
    simp only [List.getElem_map]
    unfold crs dif FM.ng at *
    simp only at *
    grind
  · rw [List.length_map] at hi
    have := C.ord i hi
    simp only [List.getElem_map]
    simpa [lex_ng] using this
theorem lower {L : List Pt} (p : L.Pairwise Lex) : Chain L (half L) false := (halfOk p).chain
theorem half_ng (L : List Pt) : half (L.map ng) = (half L).map ng := by
  unfold half
  rw [show ([] : List Pt) = ([] : List Pt).map ng from rfl, fold_ng, List.map_reverse]
  rfl
theorem upper {L : List Pt} (p : L.Pairwise Lex) : Chain L (half L.reverse) true := by
  have p2 : (L.reverse.map ng).Pairwise Lex := by
    rw [List.pairwise_map, List.pairwise_reverse]
    exact p.imp fun h => lex_ng.mpr h
  have c := lower p2
  have c2 : Chain L.reverse ((half (L.reverse.map ng)).map ng) true := Chain.ng c
  rw [half_ng, List.map_map, show ng ∘ ng = id from funext fun x => ng_ng x, List.map_id] at c2
  have m : ∀ x, x ∈ L.reverse ↔ x ∈ L := fun x => List.mem_reverse
  exact ⟨fun x hx => (m x).mp (c2.sub x hx), fun α β h z hz => c2.dom α β h z ((m z).mpr hz), fun i h z hz => c2.left i h z ((m z).mpr hz), c2.cnv, c2.ord⟩
theorem half_head {L : List Pt} (p : L.Pairwise Lex) : (half L).head? = L.head? ∧ (half L).getLast? = L.getLast? := by
  have H := halfOk p
  unfold half
  rw [List.head?_reverse, List.getLast?_reverse]
  exact ⟨H.lst, H.hd⟩
theorem half_head' {L : List Pt} (p : L.Pairwise Lex) : (half L.reverse).head? = L.getLast? ∧ (half L.reverse).getLast? = L.head? := by
  have p2 : (L.reverse.map ng).Pairwise Lex := by
    rw [List.pairwise_map, List.pairwise_reverse]
    exact p.imp fun h => lex_ng.mpr h
  have h := half_head p2
  rw [half_ng] at h
  simp only [List.head?_map, List.getLast?_map, List.head?_reverse, List.getLast?_reverse] at h
  have inj : ∀ {a b : Option Pt}, a.map ng = b.map ng → a = b := fun {a b} e => by
    have := congrArg (Option.map ng) e
    simpa [Option.map_map, Function.comp_def, ng_ng] using this
  exact ⟨inj h.1, inj h.2⟩
end FM
end
section
set_option Elab.async false
set_option linter.all false
/-! The hull as a whole. -/
namespace FM
/-- each couple that has all on its left goes in one of a few directions -/
def Nice (n : Nat) (L : List Pt) : Prop := ∀ a ∈ L, ∀ b ∈ L, a ≠ b → (∀ z ∈ L, 0 ≤ trn a b z) → a.2 = b.2 ∨ ∃ k : Nat, k ≤ n ∧ a.1 - b.1 = k * (a.2 - b.2)
structure HullOk (L q : List Pt) : Prop where
  sub : ∀ x ∈ q, x ∈ L
  sup : ∀ α β : Int, ∀ z ∈ L, ∃ v ∈ q, val α β z ≤ val α β v
  edge : ∀ i (h : i < q.length), ∀ z ∈ L, 0 ≤ trn (q.getD i (0, 0)) (q.getD ((i + 1) % q.length) (0, 0)) z
  len : ∀ n, Nice n L → q.length ≤ 2 * (n + 2)
theorem code_len {f : Nat → Nat} {m n : Nat} (h1 : ∀ i, i < m → f i ≤ n) (h2 : ∀ i, i + 1 < m → f (i + 1) < f i) : m ≤ n + 1 := by
  have key : ∀ i, i < m → f i + i ≤ n := fun i => by
    induction i with
    | zero => intro h; have := h1 0 h; omega
    | succ i ih => intro h; have := ih (by omega); have := h2 i h; omega
  by_cases hm : m = 0
  · omega
  · have := key (m - 1) (by omega)
    omega
theorem vec_code {n : Nat} {u v : Pt} (lu : LP u) (lv : LP v) (nu : u.2 = 0 ∨ ∃ k : Nat, k ≤ n ∧ u.1 = k * u.2) (nv : v.2 = 0 ∨ ∃ k : Nat, k ≤ n ∧ v.1 = k * v.2) (hc : 0 < crs u v) :
    (if v.2 = 0 then n + 1 else (v.1 / v.2).toNat) < (if u.2 = 0 then n + 1 else (u.1 / u.2).toNat) := by
  obtain ⟨a, b⟩ := u
  obtain ⟨c, d⟩ := v
  unfold crs LP at *
  simp only at *
  by_cases hb : b = 0
  · subst hb
    rw [if_pos rfl]
    by_cases hd : d = 0
    · subst hd; omega
    · rw [if_neg hd]
      rcases nv with nv | ⟨k, hk, e⟩
      · exact absurd nv hd
      · rw [e, Int.mul_ediv_cancel _ hd]; omega
  · rw [if_neg hb]
    rcases nu with nu | ⟨k, hk, e⟩
    · exact absurd nu hb
    · rw [e, Int.mul_ediv_cancel _ hb]
      have b0 : 0 < b := by
        false_or_by_contra
        have : (k : Int) * b ≤ 0 := Int.mul_nonpos_of_nonneg_of_nonpos (by omega) (by omega)
        omega
      by_cases hd : d = 0
      · subst hd
        have : 0 < b * c := Int.mul_pos b0 (by omega)
        omega
      · rw [if_neg hd]
        rcases nv with nv | ⟨k', hk', e'⟩
        · exact absurd nv hd
        · rw [e', Int.mul_ediv_cancel _ hd]
          have d0 : 0 < d := by
            false_or_by_contra
            have : (k' : Int) * d ≤ 0 := Int.mul_nonpos_of_nonneg_of_nonpos (by omega) (by omega)
            omega
          subst e e'
          have e1 : (k : Int) * b * d - b * (k' * d) = ((k : Int) - k') * (b * d) := by grind
          rw [e1] at hc
          have := Int.pos_of_mul_pos_left hc (Int.mul_pos b0 d0)
          omega
theorem vec_le {n : Nat} {u : Pt} (lu : LP u) (nu : u.2 = 0 ∨ ∃ k : Nat, k ≤ n ∧ u.1 = k * u.2) : (if u.2 = 0 then n + 1 else (u.1 / u.2).toNat) ≤ n + 1 := by
  split
  · omega
  · rename_i hb
    rcases nu with nu | ⟨k, hk, e⟩
    · exact absurd nu hb
    · rw [e, Int.mul_ediv_cancel _ hb]; omega
theorem Chain.len {L c : List Pt} {up : Bool} (C : Chain L c up) {n : Nat} (N : Nice n L) : c.length - 1 ≤ n + 2 := by
  let u : Nat → Pt := fun i => if up then FM.ng (dif (c.getD (i + 1) (0, 0)) (c.getD i (0, 0))) else dif (c.getD (i + 1) (0, 0)) (c.getD i (0, 0))
  have gd : ∀ i (h : i < c.length), c.getD i (0, 0) = c[i] := fun i h => by rw [List.getD_eq_getElem?_getD, List.getElem?_eq_getElem h]; rfl
  have hl : ∀ i, i + 1 < c.length → LP (u i) := fun i h => by
    have := C.ord i h
    show LP (if up then _ else _)
    rw [gd _ h, gd i (by omega)]
    cases up with
    | false => exact lp_dif this
    | true =>
      have := lp_dif (by simpa using this)
      unfold LP FM.ng dif at *
      simp only [if_true] at *
      omega
  have hn : ∀ i, i + 1 < c.length → ((u i).2 = 0 ∨ ∃ k : Nat, k ≤ n ∧ (u i).1 = k * (u i).2) := fun i h => by
    have o := C.ord i h
    have ne : c[i] ≠ c[i + 1] := fun e => by
      rw [e] at o
      unfold Lex at o
      split at o <;> omega
    have := N c[i] (C.sub _ (List.getElem_mem _)) c[i + 1] (C.sub _ (List.getElem_mem _)) ne (C.left i h)
    show (if up then _ else _ : Pt).2 = 0 ∨ ∃ k : Nat, k ≤ n ∧ (if up then _ else _ : Pt).1 = k * (if up then _ else _ : Pt).2
    rw [gd _ h, gd i (by omega)]
    generalize c[i] = a at this
    generalize c[i + 1] = b at this
    unfold FM.ng dif
    rcases this with e | ⟨k, hk, e⟩
    · left; cases up <;> simp only [if_true, Bool.false_eq_true, if_false] <;> omega
    · right
      refine ⟨k, hk, ?_⟩
      cases up <;> simp only [if_true, Bool.false_eq_true, if_false] <;> grind
  have hc : ∀ i, i + 2 < c.length → 0 < crs (u i) (u (i + 1)) := fun i h => by
    have := C.cnv i (i + 1) (by omega) h
    show 0 < crs (if up then _ else _) (if up then _ else _)
    rw [gd _ h, gd i (by omega), gd (i + 1) (by omega)]
    cases up with
    | false => exact this
    | true =>
      unfold crs FM.ng dif at *
      simp only [if_true] at *
      grind
  have := code_len (f := fun i => if (u i).2 = 0 then n + 1 else ((u i).1 / (u i).2).toNat) (m := c.length - 1) (n := n + 1)
    (fun i h => vec_le (hl i (by omega)) (hn i (by omega))) (fun i h => vec_code (hl i (by omega)) (hl (i + 1) (by omega)) (hn i (by omega)) (hn (i + 1) (by omega)) (hc i (by omega)))
  omega
theorem mem_dl {c : List Pt} {x : Pt} (h : x ∈ c) : x ∈ c.dropLast ∨ c.getLast? = some x := by
  have hn : c ≠ [] := List.ne_nil_of_mem h
  have e := List.dropLast_concat_getLast hn
  rw [← e] at h
  rcases List.mem_append.mp h with h | h
  · exact .inl h
  · right
    rw [List.getLast?_eq_some_getLast hn]
    rw [List.mem_singleton.mp h]
theorem hullOk {L : List Pt} (p : L.Pairwise Lex) : HullOk L (hullL L) := by
  unfold hullL
  by_cases h3 : L.length < 3
  · rw [if_pos h3]
    refine ⟨fun x h => h, fun α β z hz => ⟨z, hz, Int.le_refl _⟩, ?_, fun n _ => by omega⟩
    intro i hi z hz
    match L, h3, hi, hz with
    | [a], _, hi, hz =>
      obtain rfl : i = 0 := by simpa using hi
      obtain rfl := List.mem_singleton.mp hz
      unfold trn; simp
    | [a, b], _, hi, hz =>
      have : i = 0 ∨ i = 1 := by have : i < 2 := hi; omega
      have hz : z = a ∨ z = b := by simpa using hz
      rcases this with rfl | rfl <;> rcases hz with rfl | rfl <;> (unfold trn; simp only [List.length_cons, List.length_nil, List.getD_cons_zero, List.getD_cons_succ]; simp <;> grind)
  · rw [if_neg h3]
    have hne : L.head? ≠ L.getLast? := by
      match L, h3, p with
      | [a], h3, _ => exact absurd (by simp) h3
      | a :: b :: r, _, p =>
        rw [List.getLast?_eq_some_getLast (by simp)]
        intro z
        have z : a = _ := Option.some.inj z
        have m : (a :: b :: r).getLast (by simp) ∈ b :: r := by
          rw [List.getLast_cons (by simp)]
          exact List.getLast_mem _
        have := (List.pairwise_cons.mp p).1 _ m
        rw [← z] at this
        unfold Lex at this
        omega
    have A := lower p
    have B := upper p
    have ha := half_head p
    have hb := half_head' p
    generalize half L = c1 at *
    generalize half L.reverse = c2 at *
    have hl : L.head?.isSome := by
      cases L with
      | nil => simp at h3
      | cons a r => rfl
    have len2 : ∀ {c : List Pt}, c.head?.isSome → c.head? ≠ c.getLast? → 2 ≤ c.length := fun {c} h1 h2 => by
      match c, h1, h2 with
      | [a], _, h2 => exact absurd rfl h2
      | a :: b :: r, _, _ => simp
    have l1 : 2 ≤ c1.length := len2 (by rw [ha.1]; exact hl) (by rw [ha.1, ha.2]; exact hne)
    have l2 : 2 ≤ c2.length := len2 (by rw [hb.1]; cases L with | nil => simp at h3 | cons a r => simp) (by rw [hb.1, hb.2]; exact fun z => hne z.symm)
    have e1 : c1[c1.length - 1] = c2[0] := by
      have h := ha.2.trans hb.1.symm
      rw [List.getLast?_eq_getElem?, List.head?_eq_getElem?, List.getElem?_eq_getElem (by omega), List.getElem?_eq_getElem (by omega)] at h
      exact Option.some.inj h
    have e2 : c2[c2.length - 1] = c1[0] := by
      have h := hb.2.trans ha.1.symm
      rw [List.getLast?_eq_getElem?, List.head?_eq_getElem?, List.getElem?_eq_getElem (by omega), List.getElem?_eq_getElem (by omega)] at h
      exact Option.some.inj h
    have q1 : ∀ i (h : i < c1.length - 1), (c1.dropLast ++ c2.dropLast).getD i (0, 0) = c1[i] := fun i h => by
      rw [List.getD_eq_getElem?_getD, List.getElem?_append_left (by simpa using h), List.getElem?_dropLast, if_pos h, List.getElem?_eq_getElem (by omega)]
      rfl
    have q2 : ∀ i (h : i < c2.length - 1), (c1.dropLast ++ c2.dropLast).getD (c1.length - 1 + i) (0, 0) = c2[i] := fun i h => by
      rw [List.getD_eq_getElem?_getD, List.getElem?_append_right (by simp), List.length_dropLast, Nat.add_sub_cancel_left, List.getElem?_dropLast, if_pos h, List.getElem?_eq_getElem (by omega)]
      rfl
    have lq : (c1.dropLast ++ c2.dropLast).length = c1.length - 1 + (c2.length - 1) := by simp
    refine ⟨fun x hx => ?_, fun α β z hz => ?_, fun i hi z hz => ?_, fun n N => ?_⟩
    · rcases List.mem_append.mp hx with hc | hc
      · exact A.sub x ((List.dropLast_sublist _).subset hc)
      · exact B.sub x ((List.dropLast_sublist _).subset hc)
    · have in1 : c1[0] ∈ c1.dropLast ++ c2.dropLast := by
        refine List.mem_append_left _ (List.mem_iff_getElem?.mpr ⟨0, ?_⟩)
        rw [List.getElem?_dropLast, if_pos (by omega), List.getElem?_eq_getElem (by omega)]
      have in2 : c2[0] ∈ c1.dropLast ++ c2.dropLast := by
        refine List.mem_append_right _ (List.mem_iff_getElem?.mpr ⟨0, ?_⟩)
        rw [List.getElem?_dropLast, if_pos (by omega), List.getElem?_eq_getElem (by omega)]
      have m1 : ∀ v ∈ c1, v ∈ c1.dropLast ++ c2.dropLast := fun v hv => by
        rcases mem_dl hv with h | h
        · exact List.mem_append_left _ h
        · rw [List.getLast?_eq_getElem?, List.getElem?_eq_getElem (by omega)] at h
          rw [← Option.some.inj h, e1]; exact in2
      have m2 : ∀ v ∈ c2, v ∈ c1.dropLast ++ c2.dropLast := fun v hv => by
        rcases mem_dl hv with h | h
        · exact List.mem_append_right _ h
        · rw [List.getLast?_eq_getElem?, List.getElem?_eq_getElem (by omega)] at h
          rw [← Option.some.inj h, e2]; exact in1
      by_cases hβ : β ≤ 0
      · obtain ⟨v, hv, q⟩ := A.dom α β (by simpa using hβ) z hz
        exact ⟨v, m1 v hv, q⟩
      · obtain ⟨v, hv, q⟩ := B.dom α β (by simp; omega) z hz
        exact ⟨v, m2 v hv, q⟩
    · rw [lq] at hi ⊢
      by_cases c : i < c1.length - 1
      · rw [q1 i c]
        by_cases d : i + 1 < c1.length - 1
        · rw [Nat.mod_eq_of_lt (by omega), q1 (i + 1) d]
          exact A.left i (by omega) z hz
        · have e : i + 1 = c1.length - 1 := by omega
          have := A.left i (by omega) z hz
          rw [Nat.mod_eq_of_lt (by omega), show i + 1 = c1.length - 1 + 0 by omega, q2 0 (by omega)]
          simp only [e, e1] at this
          exact this
      · obtain ⟨j, rfl⟩ : ∃ j, i = c1.length - 1 + j := ⟨i - (c1.length - 1), by omega⟩
        have hj : j < c2.length - 1 := by omega
        rw [q2 j hj]
        by_cases d : j + 1 < c2.length - 1
        · rw [Nat.mod_eq_of_lt (by omega), Nat.add_assoc, q2 (j + 1) d]
          exact B.left j (by omega) z hz
        · have e : j + 1 = c2.length - 1 := by omega
          have := B.left j (by omega) z hz
          rw [Nat.add_assoc, e, Nat.mod_self, q1 0 (by omega)]
          simp only [e, e2] at this
          exact this
    · have := A.len N
      have := B.len N
      rw [lq]
      omega
theorem hul_ok {ps qs : List Pt} (h : Hul ps qs) : HullOk ps qs := by
  obtain ⟨L, p, m, rfl⟩ := h
  have H := hullOk p
  exact ⟨fun x hx => (m x).mp (H.sub x hx), fun α β z hz => H.sup α β z ((m z).mpr hz), fun i hi z hz => H.edge i hi z ((m z).mpr hz), fun n N => H.len n fun a ha b hb ne l => N a ((m a).mp ha) b ((m b).mp hb) ne fun z hz => l z ((m z).mpr hz)⟩
end FM
end
section
set_option Elab.async false
set_option linter.all false
/-! Shapes as lists of rational points, in units of 1 by 360. -/
namespace FM
abbrev RP := Rat × Rat
def rp (N : Int) (p : Pt) : RP := (360 * (p.1 : Rat) / (N : Rat), 360 * (p.2 : Rat) / (N : Rat))
def trnR (a b c : RP) : Rat := (b.1 - a.1) * (c.2 - a.2) - (b.2 - a.2) * (c.1 - a.1)
def Sup (P : List RP) (q : RP) : Prop := ∀ α β : Rat, ∃ v ∈ P, α * q.1 + β * q.2 ≤ α * v.1 + β * v.2
def EdgeR (P : List RP) : Prop := ∀ i, i < P.length → ∀ z ∈ P, 0 ≤ trnR (P.getD i (0, 0)) (P.getD ((i + 1) % P.length) (0, 0)) z
def NiceR (n : Nat) (P : List RP) : Prop := ∀ a ∈ P, ∀ b ∈ P, a ≠ b → (∀ z ∈ P, 0 ≤ trnR a b z) → a.2 = b.2 ∨ ∃ k : Nat, k ≤ n ∧ a.1 - b.1 = (k : Rat) * (a.2 - b.2)
structure HulR (A B : List RP) : Prop where
  sub : ∀ z ∈ B, z ∈ A
  sup : ∀ z ∈ A, Sup B z
  edge : EdgeR B
def Sh.R (S : Sh) : List RP := S.ps.map (rp S.N)
theorem div_pos' {a b : Rat} (h : 0 < a) (g : 0 < b) : 0 < a / b := by
  rw [Rat.lt_div_iff g]; grind
theorem mden (a : Rat) : a * (a.den : Rat) = (a.num : Rat) := by
  have h : (a.num : Rat) / (a.den : Rat) = a := by
    rw [← Rat.mkRat_eq_div, Rat.mkRat_self]
  have d : (0 : Rat) < (a.den : Rat) := by exact_mod_cast a.den_pos
  have ne : (a.den : Rat) ≠ 0 := by grind
  have := Rat.div_mul_cancel (a := (a.num : Rat)) ne
  rw [h] at this
  exact this
theorem cpos {N : Int} (h : 0 < N) : (0 : Rat) < (N : Rat) := by exact_mod_cast h
theorem rp_zero (N : Int) : rp N (0, 0) = (0, 0) := by unfold rp; simp only [Prod.mk.injEq]; constructor <;> (push_cast; grind)
theorem getD_rp (N : Int) (ps : List Pt) (i : Nat) : (ps.map (rp N)).getD i (0, 0) = rp N (ps.getD i (0, 0)) := by
  simp only [List.getD_eq_getElem?_getD, List.getElem?_map]
  cases ps[i]? with
  | none => exact (rp_zero N).symm
  | some p => rfl
theorem trnR_rp {N : Int} (h : 0 < N) (a b c : Pt) : trnR (rp N a) (rp N b) (rp N c) = (360 / (N : Rat)) * (360 / (N : Rat)) * ((trn a b c : Int) : Rat) := by
  have := cpos h
  unfold trnR rp trn
  push_cast
  grind
theorem trnR_iff {N : Int} (h : 0 < N) (a b c : Pt) : 0 ≤ trnR (rp N a) (rp N b) (rp N c) ↔ 0 ≤ trn a b c := by
  rw [trnR_rp h]
  have hN := cpos h
  have h1 : (0 : Rat) < 360 / (N : Rat) := div_pos' (by decide) hN
  have h2 := Rat.mul_pos h1 h1
  constructor
  · intro z
    have : (0 : Rat) ≤ ((trn a b c : Int) : Rat) := by
      false_or_by_contra
      rename_i q
      have := Rat.mul_pos h2 (show (0 : Rat) < -((trn a b c : Int) : Rat) by grind)
      grind
    exact_mod_cast this
  · intro z
    exact Rat.mul_nonneg (Rat.le_of_lt h2) (by exact_mod_cast z)
theorem rp_inj {N : Int} (h : 0 < N) {a b : Pt} (e : rp N a = rp N b) : a = b := by
  have hN := cpos h
  unfold rp at e
  have e2 := congrArg Prod.snd e
  have e1 := congrArg (fun p => p.1) e
  simp only at e1 e2
  have f1 : (a.1 : Rat) = b.1 := by grind
  have f2 : (a.2 : Rat) = b.2 := by grind
  exact Prod.ext (by exact_mod_cast f1) (by exact_mod_cast f2)
theorem hulR {N : Int} (h : 0 < N) {ps qs : List Pt} (H : Hul ps qs) : HulR (ps.map (rp N)) (qs.map (rp N)) ∧ ∀ n, NiceR n (ps.map (rp N)) → qs.length ≤ 2 * (n + 2) := by
  have K := hul_ok H
  have hN := cpos h
  refine ⟨⟨fun z hz => ?_, fun z hz α β => ?_, fun i hi z hz => ?_⟩, fun n hn => K.len n fun a ha b hb ne l => ?_⟩
  · obtain ⟨q, hq, rfl⟩ := List.mem_map.mp hz
    exact List.mem_map_of_mem (K.sub q hq)
  · obtain ⟨p, hp, rfl⟩ := List.mem_map.mp hz
    obtain ⟨v, hv, q⟩ := K.sup (α.num * β.den) (β.num * α.den) p hp
    refine ⟨rp N v, List.mem_map_of_mem hv, ?_⟩
    have q' : ((val (α.num * β.den) (β.num * α.den) p : Int) : Rat) ≤ ((val (α.num * β.den) (β.num * α.den) v : Int) : Rat) := by exact_mod_cast q
    unfold val at q'
    push_cast at q'
    have a1 : α * (α.den : Rat) = (α.num : Rat) := mden α
    have b1 : β * (β.den : Rat) = (β.num : Rat) := mden β
    have a2 : (0 : Rat) < (α.den : Rat) := by exact_mod_cast α.den_pos
    have b2 : (0 : Rat) < (β.den : Rat) := by exact_mod_cast β.den_pos
    rw [← a1, ← b1] at q'
    have dd := Rat.mul_pos a2 b2
    unfold rp
    simp only
    false_or_by_contra
    rename_i z
    generalize (α.den : Rat) = da at *
    generalize (β.den : Rat) = db at *
    have key : α * (v.1 : Rat) + β * v.2 < α * p.1 + β * p.2 := by
      have e1 : ∀ x y : Rat, α * (360 * x / (N : Rat)) + β * (360 * y / (N : Rat)) = 360 / (N : Rat) * (α * x + β * y) := fun x y => by grind
      rw [e1, e1] at z
      false_or_by_contra
      have := Rat.mul_nonneg (Rat.le_of_lt (div_pos' (show (0 : Rat) < 360 by decide) hN)) (show (0 : Rat) ≤ α * (v.1 : Rat) + β * v.2 - (α * p.1 + β * p.2) by grind)
      grind
    have := Rat.mul_pos dd (show (0 : Rat) < α * p.1 + β * p.2 - (α * (v.1 : Rat) + β * v.2) by grind)
    grind
  · rw [List.length_map] at hi
    obtain ⟨q, hq, rfl⟩ := List.mem_map.mp hz
    rw [List.length_map, getD_rp, getD_rp, trnR_iff h]
    exact K.edge i hi q (K.sub q hq)
  · rcases hn _ (List.mem_map_of_mem ha) _ (List.mem_map_of_mem hb) (fun e => ne (rp_inj h e)) (fun z hz => by
      obtain ⟨q, hq, rfl⟩ := List.mem_map.mp hz
      rw [trnR_iff h]
      exact l q hq) with e | ⟨k, hk, e⟩
    · left
      unfold rp at e
      simp only at e
      have : (a.2 : Rat) = b.2 := by grind
      exact_mod_cast this
    · right
      refine ⟨k, hk, ?_⟩
      unfold rp at e
      simp only at e
      have : (a.1 : Rat) - b.1 = (k : Rat) * (a.2 - b.2) := by grind
      exact_mod_cast this
/-! plain shapes -/
theorem gcds_dvd {N : Int} {ps : List Pt} : (gcds N ps ∣ N) ∧ (∀ p ∈ ps, gcds N ps ∣ p.1 ∧ gcds N ps ∣ p.2) ∧ (0 < N → 0 < gcds N ps) ∧ ∀ c d : Int, 0 < d → c ∣ N * d → (∀ p ∈ ps, c ∣ p.1 * d ∧ c ∣ p.2 * d) → c ∣ gcds N ps * d := by
  unfold gcds
  induction ps generalizing N with
  | nil => exact ⟨Int.dvd_refl _, (fun _ h => nomatch h), fun h => h, fun c d _ h _ => h⟩
  | cons p ps ih =>
    obtain ⟨h1, h2, h3, h4⟩ := ih (N := ((Int.gcd (Int.gcd N p.1 : Int) p.2 : Nat) : Int))
    have d1 : (((Int.gcd (Int.gcd N p.1 : Int) p.2 : Nat) : Int)) ∣ (Int.gcd N p.1 : Int) := Int.gcd_dvd_left ..
    have d2 : (((Int.gcd (Int.gcd N p.1 : Int) p.2 : Nat) : Int)) ∣ p.2 := Int.gcd_dvd_right ..
    have d3 : (Int.gcd N p.1 : Int) ∣ N := Int.gcd_dvd_left ..
    have d4 : (Int.gcd N p.1 : Int) ∣ p.1 := Int.gcd_dvd_right ..
    refine ⟨Int.dvd_trans h1 (Int.dvd_trans d1 d3), fun q hq => ?_, fun h => h3 ?_, fun c d hd h hp => h4 c d hd ?_ fun q hq => hp q (List.mem_cons_of_mem _ hq)⟩
    · rcases List.mem_cons.mp hq with rfl | hqq
      · exact ⟨Int.dvd_trans h1 (Int.dvd_trans d1 d4), Int.dvd_trans h1 d2⟩
      · exact h2 q hqq
    · have : Int.gcd (Int.gcd N p.1 : Int) p.2 ≠ 0 := fun z => by
        have := Int.gcd_eq_zero_iff.mp z
        have h5 : Int.gcd N p.1 = 0 := by omega
        have := Int.gcd_eq_zero_iff.mp h5
        omega
      omega
    · have k := hp p List.mem_cons_self
      have key : ∀ x y : Int, c ∣ x * d → c ∣ y * d → c ∣ (Int.gcd x y : Int) * d := fun x y hx hy => by
        have e := Int.dvd_coe_gcd hx hy
        rw [Int.gcd_mul_right] at e
        have e2 : ((d.natAbs : Nat) : Int) = d := by omega
        rw [Int.natCast_mul, e2] at e
        exact e
      exact key _ _ (key _ _ h k.1) k.2
end FM
end
section
set_option Elab.async false
set_option linter.all false
set_option maxRecDepth 100000
/-! What the law's functions do, on rational points. -/
namespace FM
theorem rp_mul {N c : Int} (h : 0 < N) (hc : 0 < c) (p : Pt) : rp (N * c) (p.1 * c, p.2 * c) = rp N p := by
  have h1 := cpos h
  have h2 := cpos hc
  unfold rp
  push_cast
  simp only [Prod.mk.injEq]
  constructor <;> grind
theorem plainR {N : Int} {ps : List Pt} {S : Sh} (h : 0 < N) (H : PlainR N ps S) : 0 < S.N ∧ HulR (ps.map (rp N)) S.R ∧ ∀ n, NiceR n (ps.map (rp N)) → S.ps.length ≤ 2 * (n + 2) := by
  obtain ⟨g1, g2, g3, _⟩ := gcds_dvd (N := N) (ps := ps)
  obtain ⟨e, H⟩ := H
  have g0 := g3 h
  obtain ⟨N', eN⟩ := g1
  have eN' : N / gcds N ps = N' := by
    conv => lhs; arg 1; rw [eN]
    exact Int.mul_ediv_cancel_left _ (by omega)
  have hN' : 0 < N' := by
    rw [eN] at h
    exact Int.pos_of_mul_pos_right h g0
  rw [eN'] at e
  have em : (ps.map fun p => (p.1 / gcds N ps, p.2 / gcds N ps)).map (rp N') = ps.map (rp N) := by
    rw [List.map_map]
    refine List.map_congr_left (fun p hp => ?_)
    obtain ⟨⟨x, ex⟩, ⟨y, ey⟩⟩ := g2 p hp
    have e1 : p.1 / gcds N ps = x := by rw [ex]; exact Int.mul_ediv_cancel_left _ (by omega)
    have e2 : p.2 / gcds N ps = y := by rw [ey]; exact Int.mul_ediv_cancel_left _ (by omega)
    show rp N' (p.1 / gcds N ps, p.2 / gcds N ps) = rp N p
    rw [e1, e2, ← rp_mul hN' g0 (x, y)]
    rw [Int.mul_comm N', ← eN]
    congr 1
    exact Prod.ext (by rw [ex]; exact Int.mul_comm _ _) (by rw [ey]; exact Int.mul_comm _ _)
  have K := hulR hN' H
  rw [em] at K
  unfold Sh.R
  rw [e]
  exact ⟨hN', K⟩
/-! sizes -/
def IntR (M : Int) (P : List RP) : Prop := ∀ z ∈ P, (∃ x : Int, (M : Rat) * z.1 = (x : Rat)) ∧ ∃ x : Int, (M : Rat) * z.2 = (x : Rat)
def BdR (X : Int) (P : List RP) : Prop := ∀ z ∈ P, (-(X : Rat) ≤ z.1 ∧ z.1 ≤ X) ∧ -(X : Rat) ≤ z.2 ∧ z.2 ≤ X
theorem sz_one {N M g N' a p' : Int} (hg : 0 < g) (hN : N = g * N') (hM : 0 < M) (ha : a = g * p') (hN' : 0 < N') (hle : N' ≤ 360 * M) {z : Rat} (hz : z = 360 * (a : Rat) / (N : Rat)) {x X : Int} (hx : (M : Rat) * z = (x : Rat)) (h1 : -(X : Rat) ≤ z) (h2 : z ≤ X) : p'.natAbs ≤ (M * X).natAbs := by
  have g1 := cpos hg
  have n1 := cpos hN'
  have m1 := cpos hM
  have gn := Rat.mul_pos g1 n1
  subst hN ha hz
  have e : (360 * M * p' : Int) = x * N' := by
    have : (360 : Rat) * M * p' = x * N' := by
      rw [← hx]
      push_cast
      grind
    exact_mod_cast this
  have b1 : x ≤ M * X := by
    have : (x : Rat) ≤ M * X := by
      rw [← hx]
      exact Rat.mul_le_mul_of_nonneg_left h2 (Rat.le_of_lt m1)
    exact_mod_cast this
  have b2 : -(M * X) ≤ x := by
    have : -((M : Rat) * X) ≤ x := by
      rw [← hx]
      have := Rat.mul_le_mul_of_nonneg_left h1 (Rat.le_of_lt m1)
      grind
    exact_mod_cast this
  have sx : x.natAbs ≤ (M * X).natAbs := by omega
  refine Nat.le_trans ?_ sx
  have e2 := congrArg Int.natAbs e
  rw [Int.natAbs_mul, Int.natAbs_mul, Int.natAbs_mul] at e2
  have k : (360 * M.natAbs) * p'.natAbs ≤ (360 * M.natAbs) * x.natAbs := by
    rw [show (360 : Int).natAbs = 360 from rfl] at e2
    rw [e2, Nat.mul_comm (360 * M.natAbs)]
    exact Nat.mul_le_mul_left _ (by omega)
  exact Nat.le_of_mul_le_mul_left k (by omega)
theorem dv_one {N M a : Int} (h : 0 < N) {z : Rat} (hz : z = 360 * (a : Rat) / (N : Rat)) (hx : ∃ x : Int, (M : Rat) * z = (x : Rat)) : N ∣ a * (360 * M) := by
  subst hz
  obtain ⟨x, hx⟩ := hx
  have n1 := cpos h
  refine ⟨x, ?_⟩
  have : (a : Rat) * (360 * M) = N * x := by
    rw [← hx]
    grind
  exact_mod_cast this
theorem plain_sz0 {N M X : Int} {ps : List Pt} (h : 0 < N) (hM : 0 < M) (hi : IntR M (ps.map (rp N))) (hb : BdR X (ps.map (rp N))) :
    (N / gcds N ps).natAbs ≤ (360 * M).natAbs ∧ ∀ p ∈ ps, (p.1 / gcds N ps).natAbs ≤ (M * X).natAbs ∧ (p.2 / gcds N ps).natAbs ≤ (M * X).natAbs := by
  obtain ⟨g1, g2, g3, g4⟩ := gcds_dvd (N := N) (ps := ps)
  have g0 := g3 h
  have dvd := g4 N (360 * M) (by omega) ⟨360 * M, rfl⟩ fun p hp => ⟨dv_one h rfl (hi _ (List.mem_map_of_mem hp)).1, dv_one h rfl (hi _ (List.mem_map_of_mem hp)).2⟩
  generalize gcds N ps = g at *
  obtain ⟨N', eN⟩ := g1
  have eN' : N / g = N' := by
    rw [eN]
    exact Int.mul_ediv_cancel_left _ (by omega)
  have hN' : 0 < N' := by
    rw [eN] at h
    exact Int.pos_of_mul_pos_right h g0
  have le : N' ≤ 360 * M := by
    obtain ⟨t, ht⟩ := dvd
    rw [eN, Int.mul_assoc] at ht
    have := Int.eq_of_mul_eq_mul_left (by omega) ht
    exact Int.le_of_dvd (by omega) ⟨t, this⟩
  rw [eN']
  refine ⟨by omega, fun p hp => ?_⟩
  obtain ⟨⟨x, ex⟩, ⟨y, ey⟩⟩ := g2 p hp
  have e1 : p.1 / g = x := by rw [ex]; exact Int.mul_ediv_cancel_left _ (by omega)
  have e2 : p.2 / g = y := by rw [ey]; exact Int.mul_ediv_cancel_left _ (by omega)
  rw [e1, e2]
  obtain ⟨⟨i1, hi1⟩, ⟨i2, hi2⟩⟩ := hi _ (List.mem_map_of_mem hp)
  obtain ⟨⟨b1, b2⟩, b3, b4⟩ := hb _ (List.mem_map_of_mem hp)
  exact ⟨sz_one g0 eN hM ex hN' le rfl hi1 b1 b2, sz_one g0 eN hM ey hN' le rfl hi2 b3 b4⟩
theorem plain_sz {N M X : Int} {ps : List Pt} (h : 0 < N) (hM : 0 < M) (hi : IntR M (ps.map (rp N))) (hb : BdR X (ps.map (rp N))) (sM : Sm 1000 M) (sX : Sm 1000 X) (hl : ps.length ≤ 300) :
    PlainPre N ps ∧ (Sm 1009 (N / gcds N ps)) ∧ ∀ p ∈ ps, Sm 2000 (p.1 / gcds N ps) ∧ Sm 2000 (p.2 / gcds N ps) := by
  obtain ⟨a, c⟩ := plain_sz0 h hM hi hb
  have s1 : Sm 1009 (N / gcds N ps) := (((Sm.of (a := 9) (x := 360) 360 (by decide)).mul sM).mono (by decide)).le a
  have sMX : Sm 2000 (M * X) := (sM.mul sX).mono (by decide)
  have s2 : ∀ p ∈ ps, Sm 2000 (p.1 / gcds N ps) ∧ Sm 2000 (p.2 / gcds N ps) := fun p hp => ⟨sMX.le (c p hp).1, sMX.le (c p hp).2⟩
  exact ⟨⟨h, s1.mono (by decide), fun p hp => ⟨(s2 p hp).1.mono (by decide), (s2 p hp).2.mono (by decide)⟩, hl⟩, s1, s2⟩
/-! the cut -/
def crx (P Q : RP) (s t : Rat) : RP := ((P.1 * t - Q.1 * s) / (t - s), (P.2 * t - Q.2 * s) / (t - s))
def sdR (pl : Nat) (B : Rat) (sg : Int) (z : RP) : Rat := (sg : Rat) * ((if pl = 0 then z.1 else z.2) - B)
structure CutRel (f : RP → Rat) (B A : List RP) : Prop where
  k1 : ∀ a ∈ A, (a ∈ B ∧ 0 ≤ f a) ∨ ∃ i, i < B.length ∧ f (B.getD i (0, 0)) * f (B.getD ((i + 1) % B.length) (0, 0)) < 0 ∧ a = crx (B.getD i (0, 0)) (B.getD ((i + 1) % B.length) (0, 0)) (f (B.getD i (0, 0))) (f (B.getD ((i + 1) % B.length) (0, 0)))
  k2 : ∀ b ∈ B, 0 ≤ f b → b ∈ A
  k3 : ∀ i, i < B.length → f (B.getD i (0, 0)) * f (B.getD ((i + 1) % B.length) (0, 0)) < 0 → crx (B.getD i (0, 0)) (B.getD ((i + 1) % B.length) (0, 0)) (f (B.getD i (0, 0))) (f (B.getD ((i + 1) % B.length) (0, 0))) ∈ A
theorem szp {s t : Int} (h : s * t < 0) : 0 < (t - s) * sn s t := by
  unfold sn
  split
  · omega
  · have : s ≠ t := fun e => by
      subst e
      have : 0 ≤ s * s := by
        by_cases q : 0 ≤ s
        · exact Int.mul_nonneg q q
        · exact Int.mul_nonneg_of_nonpos_of_nonpos (by omega) (by omega)
      omega
    omega
theorem fac_dvd : ∀ {l : List (Pt × Int)} {x : Pt × Int}, x ∈ l → x.2 ∣ fac l := fun {l x} h => by
  have key : ∀ (l : List (Pt × Int)) (a : Int), (a ∣ (l.map (·.2)).foldl (· * ·) a) ∧ ∀ x ∈ l, x.2 ∣ (l.map (·.2)).foldl (· * ·) a := fun l => by
    induction l with
    | nil => exact fun a => ⟨Int.dvd_refl _, (fun _ h => nomatch h)⟩
    | cons y l ih =>
      intro a
      have := ih (a * y.2)
      refine ⟨Int.dvd_trans ⟨y.2, rfl⟩ this.1, fun x hx => ?_⟩
      rcases List.mem_cons.mp hx with rfl | hx
      · exact Int.dvd_trans ⟨a, Int.mul_comm _ _⟩ this.1
      · exact this.2 x hx
  exact (key l 1).2 x h
theorem fac_pos : ∀ {l : List (Pt × Int)}, (∀ x ∈ l, 0 < x.2) → 0 < fac l := fun {l} h => by
  have key : ∀ (l : List (Pt × Int)) (a : Int), 0 < a → (∀ x ∈ l, 0 < x.2) → 0 < (l.map (·.2)).foldl (· * ·) a := fun l => by
    induction l with
    | nil => exact fun a h _ => h
    | cons y l ih => exact fun a h hl => ih _ (Int.mul_pos h (hl y List.mem_cons_self)) fun x hx => hl x (List.mem_cons_of_mem _ hx)
  exact key l 1 (by decide) h
theorem cutL_pos {f : Pt → Int} {ps : List Pt} {n : Nat} : ∀ x ∈ cutL f ps n, 0 < x.2 := by
  intro x hx
  unfold cutL at hx
  obtain ⟨i, hi, hx⟩ := List.mem_flatMap.mp hx
  unfold itm at hx
  rcases List.mem_append.mp hx with hx | hx
  · split at hx
    · obtain rfl := List.mem_singleton.mp hx
      exact (by decide : (0 : Int) < 1)
    · cases hx
  · split at hx
    · rename_i h
      obtain rfl := List.mem_singleton.mp hx
      exact szp h
    · cases hx
theorem cutP_map {N : Int} (h : 0 < N) {l : List (Pt × Int)} (hl : ∀ x ∈ l, 0 < x.2) : (cutP l).map (rp (N * fac l)) = l.map fun x => rp (N * x.2) x.1 := by
  unfold cutP
  rw [List.map_map]
  refine List.map_congr_left fun x hx => ?_
  have h0 := hl x hx
  have f0 := fac_pos hl
  obtain ⟨c, ec⟩ := fac_dvd hx
  have c0 : 0 < c := by rw [ec] at f0; exact Int.pos_of_mul_pos_right f0 h0
  have key : ∀ a : Int, a * fac l / x.2 = a * c := fun a => by
    rw [ec, ← Int.mul_assoc, Int.mul_comm a, Int.mul_assoc]
    exact Int.mul_ediv_cancel_left _ (by omega)
  show rp (N * fac l) (x.1.1 * fac l / x.2, x.1.2 * fac l / x.2) = _
  rw [key, key, ec, ← Int.mul_assoc]
  exact rp_mul (Int.mul_pos h h0) c0 x.1
theorem side_cast {N : Int} (h : 0 < N) {pl : Nat} {b : Int × Int} (hb : 0 < b.2) (sg : Int) (p : Pt) : ((sideOf N pl b sg p : Int) : Rat) = (N : Rat) * b.2 / 360 * sdR pl (360 * b.1 / b.2) sg (rp N p) := by
  have h1 := cpos h
  have h2 := cpos hb
  unfold sideOf sdR rp
  split <;> (push_cast; grind)
theorem sgn_sc {k a : Rat} (hk : 0 < k) : (0 ≤ k * a ↔ 0 ≤ a) := by
  constructor
  · intro h
    false_or_by_contra
    have := Rat.mul_pos hk (show 0 < -a by grind)
    grind
  · exact fun h => Rat.mul_nonneg (Rat.le_of_lt hk) h
theorem crx_cast {N s t : Int} (h : 0 < N) (hst : s * t < 0) {k a b : Rat} (hk : 0 < k) (es : (s : Rat) = k * a) (et : (t : Rat) = k * b) (p q : Pt) : rp (N * ((t - s) * sn s t)) (newP s t p q) = crx (rp N p) (rp N q) a b := by
  have h1 := cpos h
  have hne : t - s ≠ 0 := fun z => by
    have := szp hst
    rw [z] at this
    simp at this
  have hd : ((t : Rat) - s) ≠ 0 := by
    intro z
    apply hne
    exact_mod_cast z
  have hd2 : b - a ≠ 0 := by
    intro z
    apply hd
    rw [es, et]
    grind
  have hk0 : k ≠ 0 := by grind
  have hs : sn s t = 1 ∨ sn s t = -1 := by unfold sn; split <;> simp
  unfold rp newP crx
  have e0 : (t : Rat) - s = k * (b - a) := by rw [es, et]; grind
  have e1 : ∀ x y : Rat, 360 * ((x * t - y * s)) / (N * (t - s)) = (360 * x / N * b - 360 * y / N * a) / (b - a) := fun x y => by
    rw [e0, es, et]
    grind
  rcases hs with hs | hs <;> (rw [hs]; push_cast; simp only [Prod.mk.injEq]; constructor <;> grind)
theorem cutRel {S : Sh} {pl : Nat} {b : Int × Int} {sg : Int} (h : 0 < S.N) (hb : 0 < b.2) : CutRel (sdR pl (360 * b.1 / b.2) sg) S.R ((cutP (cutL (sideOf S.N pl b sg) S.ps S.ps.length)).map (rp (S.N * fac (cutL (sideOf S.N pl b sg) S.ps S.ps.length)))) := by
  rw [cutP_map h cutL_pos]
  have h1 := cpos h
  have h2 := cpos hb
  have kp : (0 : Rat) < (S.N : Rat) * b.2 / 360 := div_pos' (Rat.mul_pos h1 h2) (by decide)
  have len : S.R.length = S.ps.length := List.length_map _
  have gt : ∀ i, S.R.getD i (0, 0) = rp S.N (S.ps.getD i (0, 0)) := getD_rp S.N S.ps
  have sc := side_cast (sg := sg) (pl := pl) h hb
  generalize hk : (S.N : Rat) * b.2 / 360 = k at *
  generalize hF : sdR pl (360 * b.1 / b.2) sg = F at *
  generalize hf : sideOf S.N pl b sg = f at *
  have nn : ∀ p, 0 ≤ f p ↔ 0 ≤ F (rp S.N p) := fun p => by
    rw [← sgn_sc kp, ← sc]
    exact ⟨fun z => by exact_mod_cast z, fun z => by exact_mod_cast z⟩
  have ng2 : ∀ p q, f p * f q < 0 ↔ F (rp S.N p) * F (rp S.N q) < 0 := fun p q => by
    have e : ((f p * f q : Int) : Rat) = k * k * (F (rp S.N p) * F (rp S.N q)) := by push_cast; rw [sc, sc]; grind
    have : 0 ≤ f p * f q ↔ 0 ≤ F (rp S.N p) * F (rp S.N q) := by
      rw [← sgn_sc (Rat.mul_pos kp kp), ← e]
      exact ⟨fun z => by exact_mod_cast z, fun z => by exact_mod_cast z⟩
    constructor
    · intro z
      false_or_by_contra
      have := this.mpr (by grind)
      omega
    · intro z
      false_or_by_contra
      have := this.mp (by omega)
      grind
  refine ⟨fun a ha => ?_, fun z hz hn => ?_, fun i hi hn => ?_⟩
  · obtain ⟨x, hx, rfl⟩ := List.mem_map.mp ha
    unfold cutL at hx
    obtain ⟨i, hi, hx⟩ := List.mem_flatMap.mp hx
    rw [List.mem_range] at hi
    unfold itm at hx
    rcases List.mem_append.mp hx with hx | hx
    · split at hx
      · rename_i q
        obtain rfl := List.mem_singleton.mp hx
        left
        rw [Int.mul_one]
        refine ⟨List.mem_map_of_mem ?_, (nn _).mp q⟩
        simp only [List.getD_eq_getElem?_getD, List.getElem?_eq_getElem hi]
        exact List.getElem_mem hi
      · cases hx
    · split at hx
      · rename_i q
        obtain rfl := List.mem_singleton.mp hx
        right
        refine ⟨i, by omega, ?_, ?_⟩
        · rw [gt, gt, len]
          exact (ng2 _ _).mp q
        · rw [gt, gt, len]
          exact crx_cast h q kp (sc _) (sc _) _ _
      · cases hx
  · obtain ⟨p, hp, rfl⟩ := List.mem_map.mp hz
    obtain ⟨i, hi, e⟩ := List.mem_iff_getElem.mp hp
    have eg : S.ps.getD i (0, 0) = p := by rw [List.getD_eq_getElem?_getD, List.getElem?_eq_getElem hi]; exact e
    refine List.mem_map.mpr ⟨(p, 1), ?_, by rw [Int.mul_one]⟩
    unfold cutL
    refine List.mem_flatMap.mpr ⟨i, List.mem_range.mpr hi, ?_⟩
    unfold itm
    refine List.mem_append_left _ ?_
    rw [eg, if_pos ((nn p).mpr hn)]
    exact List.mem_singleton.mpr rfl
  · rw [len] at hi
    rw [gt, gt, len] at hn ⊢
    have q := (ng2 _ _).mpr hn
    refine List.mem_map.mpr ⟨(newP (f (S.ps.getD i (0, 0))) (f (S.ps.getD ((i + 1) % S.ps.length) (0, 0))) (S.ps.getD i (0, 0)) (S.ps.getD ((i + 1) % S.ps.length) (0, 0)), (f (S.ps.getD ((i + 1) % S.ps.length) (0, 0)) - f (S.ps.getD i (0, 0))) * sn (f (S.ps.getD i (0, 0))) (f (S.ps.getD ((i + 1) % S.ps.length) (0, 0)))), ?_, crx_cast h q kp (sc _) (sc _) _ _⟩
    unfold cutL
    refine List.mem_flatMap.mpr ⟨i, List.mem_range.mpr hi, ?_⟩
    unfold itm
    refine List.mem_append_right _ ?_
    rw [if_pos q]
    exact List.mem_singleton.mpr rfl
end FM
end
section
set_option Elab.async false
set_option linter.all false
set_option maxRecDepth 100000
/-! The cut keeps what it should. -/
namespace FM
structure Aff (f : RP → Rat) (a b c : Rat) : Prop where
  e : ∀ z, f z = a * z.1 + b * z.2 + c
theorem nn_mul {a b : Rat} (h : 0 ≤ a) (g : 0 ≤ b) : 0 ≤ a * b := Rat.mul_nonneg h g
theorem np_mul {a b : Rat} (h : 0 ≤ a) (g : b ≤ 0) : a * b ≤ 0 := by
  have := Rat.mul_nonneg h (show 0 ≤ -b by grind)
  grind
theorem le_of_mul {k x : Rat} (hk : 0 < k) (h : k * x ≤ 0) : x ≤ 0 := by
  false_or_by_contra
  have := Rat.mul_pos hk (show 0 < x by grind)
  grind
/-- where an affine function changes its sign on an edge -/
theorem crx_id {f g : RP → Rat} {a b c α β γ : Rat} (hf : Aff f a b c) (hg : Aff g α β γ) (v w z : RP) (h : f w - f v ≠ 0) :
    (f w - f v) * (g z - g (crx v w (f v) (f w))) = f z * (g w - g v) + trnR v w z * (a * β - b * α) := by
  have e : (f w - f v) * g (crx v w (f v) (f w)) = f w * g v - f v * g w := by
    unfold crx
    rw [hg.e, hg.e v, hg.e w]
    simp only
    generalize f w = t at *
    generalize f v = s at *
    grind
  rw [show ∀ x y k : Rat, k * (x - y) = k * x - k * y from fun x y k => by grind, e]
  unfold trnR
  rw [hf.e w, hf.e v, hf.e z, hg.e z, hg.e w, hg.e v]
  grind
theorem crx_val {f g : RP → Rat} {α β γ : Rat} (hg : Aff g α β γ) (v w : RP) (h : f w - f v ≠ 0) : (f w - f v) * g (crx v w (f v) (f w)) = f w * g v - f v * g w := by
  unfold crx
  rw [hg.e, hg.e v, hg.e w]
  simp only
  generalize f w = t at *
  generalize f v = s at *
  grind
theorem trnR_aff (v w : RP) : Aff (trnR v w) (-(w.2 - v.2)) (w.1 - v.1) (-(w.1 - v.1) * v.2 + (w.2 - v.2) * v.1) := ⟨fun z => by unfold trnR; grind⟩
theorem sup_aff {P : List RP} {q : RP} (h : Sup P q) {g : RP → Rat} {α β γ : Rat} (hg : Aff g α β γ) : ∃ v ∈ P, g q ≤ g v := by
  obtain ⟨v, hv, e⟩ := h α β
  exact ⟨v, hv, by rw [hg.e, hg.e]; grind⟩
theorem sup_low {P : List RP} {q : RP} (h : Sup P q) {g : RP → Rat} {α β γ : Rat} (hg : Aff g α β γ) (hp : ∀ z ∈ P, 0 ≤ g z) : 0 ≤ g q := by
  obtain ⟨v, hv, e⟩ := h (-α) (-β)
  have := hp v hv
  rw [hg.e] at this ⊢
  grind
theorem sup_mem {P : List RP} {q : RP} (h : q ∈ P) : Sup P q := fun α β => ⟨q, h, Rat.le_refl⟩
theorem sup_trans {P Q : List RP} {q : RP} (h : Sup P q) (k : ∀ z ∈ P, Sup Q z) : Sup Q q := fun α β => by
  obtain ⟨v, hv, e⟩ := h α β
  obtain ⟨w, hw, e2⟩ := k v hv α β
  exact ⟨w, hw, by grind⟩
/-- somewhere round a sign changes -/
theorem cyc_change {n : Nat} {p : Nat → Prop} (i0 j0 : Nat) (hi : i0 < n) (hj : j0 < n) (h1 : p i0) (h2 : ¬ p j0) : ∃ i, i < n ∧ p i ∧ ¬ p ((i + 1) % n) := by
  false_or_by_contra
  rename_i no
  have st : ∀ i, i < n → p i → p ((i + 1) % n) := fun i hi hp => by
    false_or_by_contra
    rename_i q
    exact no ⟨i, hi, hp, q⟩
  have key : ∀ k, p ((i0 + k) % n) := fun k => by
    induction k with
    | zero => rw [Nat.add_zero, Nat.mod_eq_of_lt hi]; exact h1
    | succ k ih =>
      have := st _ (Nat.mod_lt _ (by omega)) ih
      rw [Nat.mod_add_mod] at this
      exact this
  have := key (n + j0 - i0)
  rw [show i0 + (n + j0 - i0) = n + j0 by omega, Nat.add_mod_left, Nat.mod_eq_of_lt hj] at this
  exact h2 this
theorem getD_mem {P : List RP} {i : Nat} (h : i < P.length) : P.getD i (0, 0) ∈ P := by
  rw [List.getD_eq_getElem?_getD, List.getElem?_eq_getElem h]
  exact List.getElem_mem h
theorem mem_getD {P : List RP} {z : RP} (h : z ∈ P) : ∃ i, i < P.length ∧ P.getD i (0, 0) = z := by
  obtain ⟨i, hi, ez⟩ := List.mem_iff_getElem.mp h
  exact ⟨i, hi, by rw [List.getD_eq_getElem?_getD, List.getElem?_eq_getElem hi]; exact ez⟩
section
variable {f : RP → Rat} {a b c : Rat} {B A : List RP}
/-- the crossing of an edge is there, also where it ends on the line -/
theorem CutRel.cross (R : CutRel f B A) (hf : Aff f a b c) {i : Nat} (hi : i < B.length) (h : (f (B.getD i (0, 0)) < 0 ∧ 0 ≤ f (B.getD ((i + 1) % B.length) (0, 0))) ∨ (0 ≤ f (B.getD i (0, 0)) ∧ f (B.getD ((i + 1) % B.length) (0, 0)) < 0)) :
    crx (B.getD i (0, 0)) (B.getD ((i + 1) % B.length) (0, 0)) (f (B.getD i (0, 0))) (f (B.getD ((i + 1) % B.length) (0, 0))) ∈ A := by
  have hj : (i + 1) % B.length < B.length := Nat.mod_lt _ (by omega)
  have m1 := getD_mem hi
  have m2 := getD_mem hj
  have k3 := R.k3 i hi
  generalize B.getD i (0, 0) = v at *
  generalize B.getD ((i + 1) % B.length) (0, 0) = w at *
  have k2v := R.k2 v m1
  have k2w := R.k2 w m2
  generalize es : f v = s at *
  generalize et : f w = t at *
  rcases h with ⟨h1, h2⟩ | ⟨h2, h1⟩
  · by_cases h0 : t = 0
    · subst h0
      have : crx v w s 0 = w := by
        unfold crx
        exact Prod.ext (by simp only; grind) (by simp only; grind)
      rw [this]
      exact k2w h2
    · refine k3 ?_
      have := Rat.mul_pos (show 0 < -s by grind) (show 0 < t by grind)
      grind
  · by_cases h0 : s = 0
    · subst h0
      have : crx v w 0 t = v := by
        unfold crx
        exact Prod.ext (by simp only; grind) (by simp only; grind)
      rw [this]
      exact k2v h2
    · refine k3 ?_
      have := Rat.mul_pos (show 0 < s by grind) (show 0 < -t by grind)
      grind
/-- what holds of all points by an inequality holds behind the cut -/
theorem CutRel.lin (R : CutRel f B A) {g : RP → Rat} {α β γ : Rat} (hg : Aff g α β γ) (h : ∀ z ∈ B, 0 ≤ g z) : ∀ z ∈ A, 0 ≤ g z := fun z hz => by
  rcases R.k1 z hz with ⟨m, _⟩ | ⟨i, hi, hs, rfl⟩
  · exact h z m
  · have m1 := getD_mem hi
    have m2 := getD_mem (Nat.mod_lt (i + 1) (show 0 < B.length by omega))
    generalize B.getD i (0, 0) = v at *
    generalize B.getD ((i + 1) % B.length) (0, 0) = w at *
    have g1 := h v m1
    have g2 := h w m2
    have hne : f w - f v ≠ 0 := fun z => by
      have : f w = f v := by grind
      rw [this] at hs
      by_cases q : 0 ≤ f v
      · have := nn_mul q q; grind
      · have := Rat.mul_pos (show 0 < -f v by grind) (show 0 < -f v by grind); grind
    have e := crx_val (f := f) hg v w hne
    generalize g (crx v w (f v) (f w)) = x at *
    generalize f v = s at *
    generalize f w = t at *
    by_cases q : 0 < t
    · have s0 : s < 0 := by
        false_or_by_contra
        have := nn_mul (show 0 ≤ s by grind) (Rat.le_of_lt q)
        grind
      have := nn_mul (Rat.le_of_lt q) g1
      have := nn_mul (show 0 ≤ -s by grind) g2
      have := le_of_mul (k := t - s) (x := -x) (by grind) (by grind)
      grind
    · have t0 : t < 0 := by
        false_or_by_contra
        have : t = 0 := by grind
        subst this
        grind
      have s0 : 0 < s := by
        false_or_by_contra
        have := nn_mul (show 0 ≤ -s by grind) (show 0 ≤ -t by grind)
        grind
      have := nn_mul (show 0 ≤ -t by grind) g1
      have := nn_mul (Rat.le_of_lt s0) g2
      have := le_of_mul (k := s - t) (x := -x) (by grind) (by grind)
      grind
theorem CutRel.nn (R : CutRel f B A) (hf : Aff f a b c) : ∀ z ∈ A, 0 ≤ f z := fun z hz => by
  rcases R.k1 z hz with ⟨_, h⟩ | ⟨i, hi, hs, rfl⟩
  · exact h
  · generalize B.getD i (0, 0) = v at *
    generalize B.getD ((i + 1) % B.length) (0, 0) = w at *
    have hne : f w - f v ≠ 0 := fun z => by
      have : f w = f v := by grind
      rw [this] at hs
      by_cases q : 0 ≤ f v
      · have := nn_mul q q; grind
      · have := Rat.mul_pos (show 0 < -f v by grind) (show 0 < -f v by grind); grind
    have e := crx_val (f := f) hf v w hne
    have : (f w - f v) * f (crx v w (f v) (f w)) = 0 := by rw [e]; grind
    rcases Rat.mul_eq_zero.mp this with h | h
    · exact absurd h hne
    · grind
theorem crx_conv {v w : RP} {s t : Rat} (h : s * t < 0) : ∃ l : Rat, 0 < l ∧ l < 1 ∧ crx v w s t = ((1 - l) * v.1 + l * w.1, (1 - l) * v.2 + l * w.2) := by
  have hs : s ≠ 0 := fun z => by rw [z] at h; grind
  have ht : t ≠ 0 := fun z => by rw [z] at h; grind
  have hne : t - s ≠ 0 := fun z => by
    have : t = s := by grind
    subst this
    by_cases q : 0 ≤ t
    · have := nn_mul q q; grind
    · have := Rat.mul_pos (show 0 < -t by grind) (show 0 < -t by grind); grind
  refine ⟨s / (s - t), ?_, ?_, Prod.ext (by unfold crx; simp only; grind) (by unfold crx; simp only; grind)⟩
  · by_cases q : 0 < s
    · have : t < 0 := by
        false_or_by_contra
        have := nn_mul (Rat.le_of_lt q) (show 0 ≤ t by grind)
        grind
      exact div_pos' q (by grind)
    · have : 0 < t := by
        false_or_by_contra
        have := nn_mul (show 0 ≤ -s by grind) (show 0 ≤ -t by grind)
        grind
      rw [show s / (s - t) = (-s) / (t - s) by grind]
      exact div_pos' (by grind) (by grind)
  · by_cases q : 0 < s
    · have : t < 0 := by
        false_or_by_contra
        have := nn_mul (Rat.le_of_lt q) (show 0 ≤ t by grind)
        grind
      rw [Rat.div_lt_iff (by grind)]; grind
    · have : 0 < t := by
        false_or_by_contra
        have := nn_mul (show 0 ≤ -s by grind) (show 0 ≤ -t by grind)
        grind
      rw [show s / (s - t) = (-s) / (t - s) by grind, Rat.div_lt_iff (by grind)]; grind
/-- between two points in reach all is in reach -/
theorem sup_conv {P : List RP} {v w : RP} {l : Rat} (hv : Sup P v) (hw : Sup P w) (h0 : 0 ≤ l) (h1 : l ≤ 1) : Sup P ((1 - l) * v.1 + l * w.1, (1 - l) * v.2 + l * w.2) := fun α β => by
  simp only
  by_cases q : α * v.1 + β * v.2 ≤ α * w.1 + β * w.2
  · obtain ⟨u, hu, e⟩ := hw α β
    have := nn_mul (show 0 ≤ 1 - l by grind) (show 0 ≤ α * w.1 + β * w.2 - (α * v.1 + β * v.2) by grind)
    exact ⟨u, hu, by grind⟩
  · obtain ⟨u, hu, e⟩ := hv α β
    have := nn_mul h0 (show 0 ≤ α * v.1 + β * v.2 - (α * w.1 + β * w.2) by grind)
    exact ⟨u, hu, by grind⟩
/-- behind the cut all is in the reach of what was there -/
theorem CutRel.back (R : CutRel f B A) : ∀ z ∈ A, Sup B z := fun z hz => by
  rcases R.k1 z hz with ⟨m, _⟩ | ⟨i, hi, hs, rfl⟩
  · exact sup_mem m
  · have m1 := getD_mem hi
    have m2 := getD_mem (Nat.mod_lt (i + 1) (show 0 < B.length by omega))
    obtain ⟨l, l0, l1, e⟩ := crx_conv (v := B.getD i (0, 0)) (w := B.getD ((i + 1) % B.length) (0, 0)) hs
    rw [e]
    exact sup_conv (sup_mem m1) (sup_mem m2) (Rat.le_of_lt l0) (Rat.le_of_lt l1)
/-- nothing of what is on the right side is lost -/
theorem CutRel.sup (R : CutRel f B A) (hf : Aff f a b c) (E : EdgeR B) {q : RP} (hq : Sup B q) (fq : 0 ≤ f q) : Sup A q := fun α β => by
  by_cases all : ∀ v ∈ B, 0 ≤ f v
  · obtain ⟨v, hv, e⟩ := hq α β
    exact ⟨v, R.k2 v hv (all v hv), e⟩
  · obtain ⟨v0, hv0⟩ := Classical.not_forall.mp all
    obtain ⟨m0, n0⟩ := Classical.not_imp.mp hv0
    obtain ⟨w0, k0, e0⟩ := sup_aff hq hf
    obtain ⟨i0, hi0, ei⟩ := mem_getD m0
    obtain ⟨j0, hj0, ej⟩ := mem_getD k0
    have hg : Aff (fun z : RP => α * z.1 + β * z.2) α β 0 := ⟨fun z => by grind⟩
    obtain ⟨z, mz, ez⟩ := hq α β
    -- both crossings
    obtain ⟨i, hi, p1, p2⟩ := cyc_change (p := fun i => f (B.getD i (0, 0)) < 0) i0 j0 hi0 hj0 (by show f _ < 0; rw [ei]; grind) (by show ¬ f _ < 0; rw [ej]; grind)
    obtain ⟨j, hj, p3, p4⟩ := cyc_change (p := fun i => 0 ≤ f (B.getD i (0, 0))) j0 i0 hj0 hi0 (by show 0 ≤ f _; rw [ej]; grind) (by show ¬ 0 ≤ f _; rw [ei]; grind)
    have c1 := R.cross hf hi (.inl ⟨p1, by grind⟩)
    have c2 := R.cross hf hj (.inr ⟨p3, by grind⟩)
    have L1 := E i hi
    have L2 := E j hj
    have q1 := sup_low hq (trnR_aff _ _) L1
    have q2 := sup_low hq (trnR_aff _ _) L2
    generalize B.getD i (0, 0) = v at *
    generalize B.getD ((i + 1) % B.length) (0, 0) = w at *
    generalize B.getD j (0, 0) = v' at *
    generalize B.getD ((j + 1) % B.length) (0, 0) = w' at *
    have z1 := L1 z mz
    have z2 := L2 z mz
    have i1 := fun y => crx_id hf hg v w y (by grind)
    have i2 := fun y => crx_id hf hg v' w' y (by grind)
    by_cases fz : 0 ≤ f z
    · exact ⟨z, R.k2 z mz fz, ez⟩
    by_cases W : a * β - b * α ≤ 0
    · refine ⟨_, c1, ?_⟩
      have a1 := i1 q
      have a2 := i1 z
      generalize crx v w (f v) (f w) = x at *
      generalize a * β - b * α = W' at *
      generalize hu : α * w.1 + β * w.2 - (α * v.1 + β * v.2) = u at *
      by_cases hu0 : u ≤ 0
      · have t1 := np_mul fq hu0
        have t2 := np_mul q1 W
        have := le_of_mul (k := f w - f v) (x := α * q.1 + β * q.2 - (α * x.1 + β * x.2)) (by grind) (by grind)
        grind
      · have t1 := np_mul (a := u) (b := f z) (by grind) (by grind)
        have t2 := np_mul z1 W
        have := le_of_mul (k := f w - f v) (x := α * z.1 + β * z.2 - (α * x.1 + β * x.2)) (by grind) (by grind)
        grind
    · refine ⟨_, c2, ?_⟩
      have a1 := i2 q
      have a2 := i2 z
      generalize crx v' w' (f v') (f w') = x at *
      generalize a * β - b * α = W' at *
      generalize hu : α * w'.1 + β * w'.2 - (α * v'.1 + β * v'.2) = u at *
      by_cases hu0 : 0 ≤ u
      · have t1 := nn_mul fq hu0
        have t2 := nn_mul q2 (show 0 ≤ W' by grind)
        have := le_of_mul (k := f v' - f w') (x := α * q.1 + β * q.2 - (α * x.1 + β * x.2)) (by grind) (by grind)
        grind
      · have t1 := nn_mul (a := -u) (b := -f z) (by grind) (by grind)
        have t2 := nn_mul z2 (show 0 ≤ W' by grind)
        have := le_of_mul (k := f v' - f w') (x := α * z.1 + β * z.2 - (α * x.1 + β * x.2)) (by grind) (by grind)
        grind
/-! directions -/
def Dir (n : Nat) (a b : RP) : Prop := a.2 = b.2 ∨ ∃ k : Nat, k ≤ n ∧ a.1 - b.1 = (k : Rat) * (a.2 - b.2)
theorem line_dir {n : Nat} {P : List RP} (N : NiceR n P) {a b a' b' : RP} (hab : a ≠ b) (h : ∀ z ∈ P, 0 ≤ trnR a b z) (ma : a' ∈ P) (mb : b' ∈ P) (hne : a' ≠ b') (za : trnR a b a' = 0) (zb : trnR a b b' = 0) : Dir n a b := by
  obtain ⟨k, k0, e1, e2⟩ : ∃ k : Rat, k ≠ 0 ∧ b'.1 - a'.1 = k * (b.1 - a.1) ∧ b'.2 - a'.2 = k * (b.2 - a.2) := by
    unfold trnR at za zb
    by_cases h1 : b.1 - a.1 = 0
    · have h2 : b.2 - a.2 ≠ 0 := fun z => hab (Prod.ext (by grind) (by grind))
      have e1 : b'.1 - a'.1 = 0 := by
        have : (b.2 - a.2) * (b'.1 - a'.1) = 0 := by grind
        rcases Rat.mul_eq_zero.mp this with q | q
        · exact absurd q h2
        · exact q
      refine ⟨(b'.2 - a'.2) / (b.2 - a.2), fun z => hne ?_, by grind, by grind⟩
      have : b'.2 - a'.2 = 0 := by
        have := Rat.div_mul_cancel (a := b'.2 - a'.2) h2
        rw [z] at this
        grind
      exact Prod.ext (by grind) (by grind)
    · refine ⟨(b'.1 - a'.1) / (b.1 - a.1), fun z => hne ?_, by grind, by grind⟩
      have h3 : b'.1 - a'.1 = 0 := by
        have := Rat.div_mul_cancel (a := b'.1 - a'.1) h1
        rw [z] at this
        grind
      have : (b.1 - a.1) * (b'.2 - a'.2) = 0 := by grind
      rcases Rat.mul_eq_zero.mp this with q | q
      · exact absurd q h1
      · exact Prod.ext (by grind) (by grind)
  have key : Dir n a' b' → Dir n a b := fun d => by
    rcases d with d | ⟨m, hm, d⟩
    · left
      have : k * (b.2 - a.2) = 0 := by grind
      rcases Rat.mul_eq_zero.mp this with q | q
      · exact absurd q k0
      · grind
    · right
      refine ⟨m, hm, ?_⟩
      have : k * ((a.1 - b.1) - (m : Rat) * (a.2 - b.2)) = 0 := by grind
      rcases Rat.mul_eq_zero.mp this with q | q
      · exact absurd q k0
      · grind
  have tr : ∀ z, trnR a' b' z = k * trnR a b z := fun z => by
    unfold trnR at *
    rw [e1, e2]
    grind
  by_cases kp : 0 < k
  · exact key (N a' ma b' mb hne fun z hz => by rw [tr]; exact nn_mul (Rat.le_of_lt kp) (h z hz))
  · have := N b' mb a' ma (fun z => hne z.symm) fun z hz => by
      have e : trnR b' a' z = -trnR a' b' z := by unfold trnR; grind
      rw [e, tr]
      have := nn_mul (a := -k) (by grind) (h z hz)
      grind
    apply key
    rcases this with d | ⟨m, hm, d⟩
    · exact .inl d.symm
    · exact .inr ⟨m, hm, by grind⟩
/-- the directions behind a cut -/
theorem CutRel.nice {n : Nat} (R : CutRel f B A) (hf : Aff f a b c) (E : EdgeR B) (N : NiceR n B) (hz : ∀ u v : RP, f u = 0 → f v = 0 → Dir n u v) : NiceR n A := by
  intro x hx y hy hne hl
  have fx := R.nn hf x hx
  have fy := R.nn hf y hy
  by_cases both : f x = 0 ∧ f y = 0
  · exact hz x y both.1 both.2
  have xx : trnR x y x = 0 := by unfold trnR; grind
  have yy : trnR x y y = 0 := by unfold trnR; grind
  -- all of B is on the left
  have hB : ∀ z ∈ B, 0 ≤ trnR x y z := fun z mz => by
    by_cases fz : 0 ≤ f z
    · exact hl z (R.k2 z mz fz)
    · false_or_by_contra
      rename_i neg
      obtain ⟨o, mo, fo, zo⟩ : ∃ o, o ∈ A ∧ 0 < f o ∧ trnR x y o = 0 := by
        by_cases q : 0 < f x
        · exact ⟨x, hx, q, xx⟩
        · exact ⟨y, hy, by grind, yy⟩
      have d0 : 0 < f o - f z := by grind
      have l0 : 0 < f o / (f o - f z) := div_pos' fo d0
      have l1 : f o / (f o - f z) < 1 := by rw [Rat.div_lt_iff d0]; grind
      have le : f o / (f o - f z) * (f o - f z) = f o := Rat.div_mul_cancel (by grind)
      generalize f o / (f o - f z) = l at *
      have sy := sup_conv (R.back o mo) (sup_mem mz) (Rat.le_of_lt l0) (Rat.le_of_lt l1)
      have fw : f ((1 - l) * o.1 + l * z.1, (1 - l) * o.2 + l * z.2) = 0 := by
        rw [hf.e] at *
        rw [hf.e z] at *
        grind
      have sA := R.sup hf E sy (by rw [fw]; exact Rat.le_refl)
      have := sup_low sA (trnR_aff x y) hl
      have e : trnR x y ((1 - l) * o.1 + l * z.1, (1 - l) * o.2 + l * z.2) = (1 - l) * trnR x y o + l * trnR x y z := by unfold trnR; grind
      rw [e, zo] at this
      have := Rat.mul_pos l0 (show 0 < -trnR x y z by grind)
      grind
  -- where a point of A lies
  have loc : ∀ u ∈ A, trnR x y u = 0 → u ∈ B ∨ ∃ v w, v ∈ B ∧ w ∈ B ∧ v ≠ w ∧ trnR x y v = 0 ∧ trnR x y w = 0 := fun u hu zu => by
    rcases R.k1 u hu with ⟨m, _⟩ | ⟨i, hi, hs, rfl⟩
    · exact .inl m
    · right
      have m1 := getD_mem hi
      have m2 := getD_mem (Nat.mod_lt (i + 1) (show 0 < B.length by omega))
      generalize B.getD i (0, 0) = v at *
      generalize B.getD ((i + 1) % B.length) (0, 0) = w at *
      obtain ⟨l, l0, l1, e⟩ := crx_conv (v := v) (w := w) hs
      rw [e] at zu
      have e2 : trnR x y ((1 - l) * v.1 + l * w.1, (1 - l) * v.2 + l * w.2) = (1 - l) * trnR x y v + l * trnR x y w := by unfold trnR; grind
      rw [e2] at zu
      have g1 := hB v m1
      have g2 := hB w m2
      have t1 := nn_mul (show 0 ≤ 1 - l by grind) g1
      have t2 := nn_mul (Rat.le_of_lt l0) g2
      refine ⟨v, w, m1, m2, fun z => ?_, ?_, ?_⟩
      · subst z
        by_cases q : 0 ≤ f v
        · have := nn_mul q q; grind
        · have := Rat.mul_pos (show 0 < -f v by grind) (show 0 < -f v by grind); grind
      · have : (1 - l) * trnR x y v = 0 := by grind
        rcases Rat.mul_eq_zero.mp this with q | q
        · grind
        · exact q
      · have : l * trnR x y w = 0 := by grind
        rcases Rat.mul_eq_zero.mp this with q | q
        · grind
        · exact q
  rcases loc x hx xx with mx | ⟨v, w, m1, m2, ne, z1, z2⟩
  · rcases loc y hy yy with my | ⟨v, w, m1, m2, ne, z1, z2⟩
    · exact N x mx y my hne hB
    · exact line_dir N hne hB m1 m2 ne z1 z2
  · exact line_dir N hne hB m1 m2 ne z1 z2
end
/-! the hull keeps all -/
theorem HulR.nice {n : Nat} {A C : List RP} (H : HulR A C) (N : NiceR n A) : NiceR n C := fun x hx y hy hne hl =>
  N x (H.sub x hx) y (H.sub y hy) hne fun z hz => sup_low (H.sup z hz) (trnR_aff x y) hl
theorem HulR.supQ {A C : List RP} (H : HulR A C) {q : RP} (h : Sup A q) : Sup C q := sup_trans h H.sup
end FM
end
section
set_option Elab.async false
set_option linter.all false
set_option maxRecDepth 100000
/-! Shapes go on: sizes, directions, what is in reach. -/
namespace FM
def Lc : Int := 219060189739591200
theorem Lc_dvd : ∀ k : Nat, k ≤ 42 → 1 ≤ k → ∃ c : Int, Lc = (k : Int) * c := by
  have : ∀ k : Fin 43, 1 ≤ k.val → Lc = (k.val : Int) * (Lc / (k.val : Int)) := by decide +kernel
  intro k h1 h2
  exact ⟨_, this ⟨k, by omega⟩ h2⟩
theorem fr_val (x : Int) : 360 * ((fr x).1 : Rat) / ((fr x).2 : Rat) = (x : Rat) := by
  have v := V.fr x
  have p := cpos v.pos
  have e : (((fr x).1 * 360 : Int) : Rat) = ((x * (fr x).2 : Int) : Rat) := by rw [v.val]
  push_cast at e
  grind
structure Shp (n : Nat) (M X : Int) (P : List RP) : Prop where
  edge : EdgeR P
  nice : NiceR n P
  int : IntR M P
  bd : BdR X P
theorem HulR.shp {n : Nat} {M X : Int} {A C : List RP} (H : HulR A C) (N : NiceR n A) (I : IntR M A) (B : BdR X A) : Shp n M X C :=
  ⟨H.edge, H.nice N, fun z hz => I z (H.sub z hz), fun z hz => B z (H.sub z hz)⟩
theorem sdR_aff0 (B : Rat) (sg : Int) : Aff (sdR 0 B sg) (sg : Rat) 0 (-(sg : Rat) * B) := ⟨fun z => by unfold sdR; rw [if_pos rfl]; grind⟩
theorem sdR_aff1 (B : Rat) (sg : Int) : Aff (sdR 1 B sg) 0 (sg : Rat) (-(sg : Rat) * B) := ⟨fun z => by unfold sdR; rw [if_neg (by decide)]; grind⟩
theorem bd_aff {f : RP → Rat} {B A : List RP} (R : CutRel f B A) {X : Int} (h : BdR X B) : BdR X A := fun z hz => by
  have a1 := R.lin (g := fun z => z.1 + X) (α := 1) (β := 0) (γ := X) ⟨fun z => by grind⟩ (fun z hz => by have := (h z hz).1.1; grind) z hz
  have a2 := R.lin (g := fun z => X - z.1) (α := -1) (β := 0) (γ := X) ⟨fun z => by grind⟩ (fun z hz => by have := (h z hz).1.2; grind) z hz
  have a3 := R.lin (g := fun z => z.2 + X) (α := 0) (β := 1) (γ := X) ⟨fun z => by grind⟩ (fun z hz => by have := (h z hz).2.1; grind) z hz
  have a4 := R.lin (g := fun z => X - z.2) (α := 0) (β := -1) (γ := X) ⟨fun z => by grind⟩ (fun z hz => by have := (h z hz).2.2; grind) z hz
  exact ⟨⟨by grind, by grind⟩, by grind, by grind⟩
theorem int_mul {M c : Int} {z : Rat} (h : ∃ x : Int, (M : Rat) * z = (x : Rat)) : ∃ x : Int, ((c * M : Int) : Rat) * z = (x : Rat) := by
  obtain ⟨x, e⟩ := h
  exact ⟨c * x, by push_cast; rw [← e]; grind⟩
/-- an edge that changes its sign, and where -/
theorem cross_cases {f : RP → Rat} {B A : List RP} {n : Nat} (R : CutRel f B A) (E : EdgeR B) (N : NiceR n B) {z : RP} (hz : z ∈ A) : z ∈ B ∨ ∃ v w, v ∈ B ∧ w ∈ B ∧ Dir n v w ∧ f v ≠ f w ∧ ∃ l : Rat, z = ((1 - l) * v.1 + l * w.1, (1 - l) * v.2 + l * w.2) := by
  rcases R.k1 z hz with ⟨m, _⟩ | ⟨i, hi, hs, rfl⟩
  · exact .inl m
  · right
    have m1 := getD_mem hi
    have m2 := getD_mem (Nat.mod_lt (i + 1) (show 0 < B.length by omega))
    have ed := E i hi
    generalize B.getD i (0, 0) = v at *
    generalize B.getD ((i + 1) % B.length) (0, 0) = w at *
    obtain ⟨l, l0, l1, e⟩ := crx_conv (v := v) (w := w) hs
    have ne : f v ≠ f w := fun z => by
      rw [z] at hs
      by_cases q : 0 ≤ f w
      · have := nn_mul q q; grind
      · have := Rat.mul_pos (show 0 < -f w by grind) (show 0 < -f w by grind); grind
    exact ⟨v, w, m1, m2, N v m1 w m2 (fun z => ne (by rw [z])) ed, ne, l, e⟩
theorem sg_cases {sg : Int} (h : sg = 1 ∨ sg = -1) : (sg : Rat) = 1 ∨ (sg : Rat) = -1 := by
  rcases h with rfl | rfl
  · left; rfl
  · right; rfl
theorem int_cut1 {B A : List RP} {n : Nat} {M c sg : Int} (hsg : sg = 1 ∨ sg = -1) (R : CutRel (sdR 1 (c : Rat) sg) B A) (E : EdgeR B) (N : NiceR n B) (I : IntR M B) : IntR M A := fun z hz => by
  have fz : ∀ z, sdR 1 (c : Rat) sg z = (sg : Rat) * (z.2 - c) := fun z => by unfold sdR; rw [if_neg (by decide)]
  have s := sg_cases hsg
  rcases R.k1 z hz with ⟨m, _⟩ | ⟨i, hi, hs, ez⟩
  · exact I z m
  · have m1 := getD_mem hi
    have m2 := getD_mem (Nat.mod_lt (i + 1) (show 0 < B.length by omega))
    have ed := E i hi
    generalize B.getD i (0, 0) = v at *
    generalize B.getD ((i + 1) % B.length) (0, 0) = w at *
    have ne : sdR 1 (c : Rat) sg w - sdR 1 (c : Rat) sg v ≠ 0 := fun z => by
      have z : sdR 1 (c : Rat) sg w = sdR 1 (c : Rat) sg v := by grind
      rw [z] at hs
      generalize sdR 1 (c : Rat) sg v = q at hs
      by_cases q0 : 0 ≤ q
      · have := nn_mul q0 q0; grind
      · have := Rat.mul_pos (show 0 < -q by grind) (show 0 < -q by grind); grind
    have e0 := crx_val (f := sdR 1 (c : Rat) sg) (sdR_aff1 (c : Rat) sg) v w ne
    rw [← ez] at e0
    have e1 : sdR 1 (c : Rat) sg z = 0 := by
      have : (sdR 1 (c : Rat) sg w - sdR 1 (c : Rat) sg v) * sdR 1 (c : Rat) sg z = 0 := by rw [e0]; grind
      rcases Rat.mul_eq_zero.mp this with h | h
      · exact absurd h ne
      · exact h
    have z2 : z.2 = c := by rw [fz] at e1; rcases s with s | s <;> (rw [s] at e1; grind)
    obtain ⟨x1, i1⟩ := (I v m1).1
    obtain ⟨x2, i2⟩ := (I v m1).2
    refine ⟨?_, M * c, by rw [z2]; push_cast; rfl⟩
    have hd := N v m1 w m2 (fun z => ne (by rw [z]; grind)) ed
    rcases hd with d | ⟨k, hk, d⟩
    · exact absurd (show sdR 1 (c : Rat) sg w - sdR 1 (c : Rat) sg v = 0 by rw [fz, fz, d]; grind) ne
    · refine ⟨x1 + k * (M * c - x2), ?_⟩
      have t := (trnR_aff v w).e z
      have key : z.1 = v.1 + (k : Rat) * (c - v.2) := by
        have e := crx_val (f := sdR 1 (c : Rat) sg) (g := fun z : RP => z.1 - (k : Rat) * z.2) (α := 1) (β := -(k : Rat)) (γ := 0) ⟨fun z => by grind⟩ v w ne
        rw [← ez] at e
        have : (sdR 1 (c : Rat) sg w - sdR 1 (c : Rat) sg v) * ((z.1 - (k : Rat) * z.2) - (v.1 - (k : Rat) * v.2)) = 0 := by grind
        rcases Rat.mul_eq_zero.mp this with h | h
        · exact absurd h ne
        · grind
      rw [key]
      push_cast
      rw [← i1, ← i2]
      grind
theorem int_cut0 {B A : List RP} {n : Nat} {M c sg : Int} (hn : n ≤ 42) (hsg : sg = 1 ∨ sg = -1) (R : CutRel (sdR 0 (c : Rat) sg) B A) (E : EdgeR B) (N : NiceR n B) (I : IntR M B) : IntR (Lc * M) A := fun z hz => by
  have fz : ∀ z, sdR 0 (c : Rat) sg z = (sg : Rat) * (z.1 - c) := fun z => by unfold sdR; rw [if_pos rfl]
  have s := sg_cases hsg
  rcases R.k1 z hz with ⟨m, _⟩ | ⟨i, hi, hs, ez⟩
  · exact ⟨int_mul (I z m).1, int_mul (I z m).2⟩
  · have m1 := getD_mem hi
    have m2 := getD_mem (Nat.mod_lt (i + 1) (show 0 < B.length by omega))
    have ed := E i hi
    generalize B.getD i (0, 0) = v at *
    generalize B.getD ((i + 1) % B.length) (0, 0) = w at *
    have ne : sdR 0 (c : Rat) sg w - sdR 0 (c : Rat) sg v ≠ 0 := fun z => by
      have z : sdR 0 (c : Rat) sg w = sdR 0 (c : Rat) sg v := by grind
      rw [z] at hs
      generalize sdR 0 (c : Rat) sg v = q at hs
      by_cases q0 : 0 ≤ q
      · have := nn_mul q0 q0; grind
      · have := Rat.mul_pos (show 0 < -q by grind) (show 0 < -q by grind); grind
    have e0 := crx_val (f := sdR 0 (c : Rat) sg) (sdR_aff0 (c : Rat) sg) v w ne
    rw [← ez] at e0
    have e1 : sdR 0 (c : Rat) sg z = 0 := by
      have : (sdR 0 (c : Rat) sg w - sdR 0 (c : Rat) sg v) * sdR 0 (c : Rat) sg z = 0 := by rw [e0]; grind
      rcases Rat.mul_eq_zero.mp this with h | h
      · exact absurd h ne
      · exact h
    have z1 : z.1 = c := by rw [fz] at e1; rcases s with s | s <;> (rw [s] at e1; grind)
    obtain ⟨x1, i1⟩ := (I v m1).1
    obtain ⟨x2, i2⟩ := (I v m1).2
    refine ⟨⟨Lc * (M * c), by rw [z1]; push_cast; grind⟩, ?_⟩
    have hd := N v m1 w m2 (fun z => ne (by rw [z]; grind)) ed
    have lin : ∀ k : Rat, v.1 * 0 + v.2 - k * v.1 = w.1 * 0 + w.2 - k * w.1 → z.2 - k * z.1 = v.2 - k * v.1 := fun k h => by
      have e := crx_val (f := sdR 0 (c : Rat) sg) (g := fun z : RP => z.2 - k * z.1) (α := -k) (β := 1) (γ := 0) ⟨fun z => by grind⟩ v w ne
      rw [← ez] at e
      have : (sdR 0 (c : Rat) sg w - sdR 0 (c : Rat) sg v) * ((z.2 - k * z.1) - (v.2 - k * v.1)) = 0 := by grind
      rcases Rat.mul_eq_zero.mp this with h | h
      · exact absurd h ne
      · grind
    rcases hd with d | ⟨k, hk, d⟩
    · have := lin 0 (by grind)
      refine ⟨Lc * x2, ?_⟩
      push_cast
      rw [← i2, show z.2 = v.2 by grind]
      grind
    · by_cases k0 : k = 0
      · subst k0
        exact absurd (show sdR 0 (c : Rat) sg w - sdR 0 (c : Rat) sg v = 0 by
          have : v.1 = w.1 := by have d : v.1 - w.1 = ((0 : Nat) : Rat) * (v.2 - w.2) := d; push_cast at d; grind
          rw [fz, fz, this]; grind) ne
      · obtain ⟨q, hq⟩ := Lc_dvd k (by omega) (by omega)
        have kp : (0 : Rat) < (k : Rat) := by exact_mod_cast (by omega : 0 < k)
        have kk : (k : Rat) * (1 / (k : Rat)) = 1 := by grind
        generalize 1 / (k : Rat) = r at kk
        have := lin r (by
          have e : v.1 = w.1 + (k : Rat) * (v.2 - w.2) := by grind
          rw [e]; grind)
        refine ⟨Lc * x2 + q * (M * c - x1), ?_⟩
        have hq' : (Lc : Rat) = (k : Rat) * (q : Rat) := by rw [hq]; push_cast; rfl
        push_cast
        rw [← i1, ← i2, show z.2 = v.2 + r * (c - v.1) by rw [← z1]; grind, hq']
        grind
end FM
end
section
set_option Elab.async false
set_option linter.all false
set_option maxRecDepth 100000
/-! One step of a shape: what it must be, what comes of it. -/
namespace FM
structure Szs (n : Nat) (S : Sh) : Prop where
  pos : 0 < S.N
  sN : Sm 1009 S.N
  sp : ∀ p ∈ S.ps, Sm 2000 p.1 ∧ Sm 2000 p.2
  len : S.ps.length ≤ 2 * (n + 2)
theorem plain_go {N M X : Int} {ps : List Pt} {n : Nat} (h : 0 < N) (hM : 0 < M) (sM : Sm 1000 M) (sX : Sm 1000 X) (nc : NiceR n (ps.map (rp N))) (hi : IntR M (ps.map (rp N))) (hb : BdR X (ps.map (rp N))) (hl : ps.length ≤ 300) :
    PlainPre N ps ∧ ∀ S, PlainR N ps S → Szs n S ∧ Shp n M X S.R ∧ HulR (ps.map (rp N)) S.R := by
  obtain ⟨p1, p2, p3⟩ := plain_sz h hM hi hb sM sX hl
  refine ⟨p1, fun S H => ?_⟩
  obtain ⟨q1, q2, q3⟩ := plainR h H
  refine ⟨⟨q1, by rw [H.1]; exact p2, fun p hp => ?_, q3 n nc⟩, q2.shp nc hi hb, q2⟩
  obtain ⟨q, hq, rfl⟩ := List.mem_map.mp ((hul_ok H.2).sub p hp)
  exact p3 q hq
theorem cutP_len (f : Pt → Int) (ps : List Pt) (n : Nat) : (cutP (cutL f ps n)).length ≤ 2 * n := by
  unfold cutP
  rw [List.length_map]
  induction n with
  | zero => simp [cutL]
  | succ n ih =>
    rw [cutL_succ, List.length_append]
    have : (itm f ps n).length ≤ 2 := by
      unfold itm
      rw [List.length_append]
      split <;> split <;> simp
    omega
theorem cut_go {n : Nat} {M M' X c : Int} {S : Sh} {pl : Nat} {b : Int × Int} {sg : Int} (hn : pl = 0 → n ≤ 42) (pos : 0 < S.N) (sN : Sm 4000 S.N) (sp : ∀ p ∈ S.ps, Sm 4000 p.1 ∧ Sm 4000 p.2) (len : S.ps.length ≤ 150) (b1 : Sm 1000 b.1) (b2 : Sm 1000 b.2) (hb : 0 < b.2) (hsg : sg = 1 ∨ sg = -1)
    (hc : 360 * (b.1 : Rat) / (b.2 : Rat) = (c : Rat)) (hpl : (pl = 1 ∧ M' = M) ∨ (pl = 0 ∧ M' = Lc * M)) (hM : 0 < M') (sM : Sm 1000 M') (sX : Sm 1000 X) (P : Shp n M X S.R) :
    CutPre S pl b sg ∧ ∀ S', CutR S pl b sg S' → Szs n S' ∧ Shp n M' X S'.R ∧ ∃ A, CutRel (sdR pl (c : Rat) sg) S.R A ∧ HulR A S'.R := by
  have R := cutRel (S := S) (pl := pl) (sg := sg) pos hb
  rw [hc] at R
  have fp := fac_pos (cutL_pos (f := sideOf S.N pl b sg) (ps := S.ps) (n := S.ps.length))
  have len2 := cutP_len (sideOf S.N pl b sg) S.ps S.ps.length
  have pos2 := Int.mul_pos pos fp
  have bd := bd_aff R P.bd
  have nc : NiceR n ((cutP (cutL (sideOf S.N pl b sg) S.ps S.ps.length)).map (rp (S.N * fac (cutL (sideOf S.N pl b sg) S.ps S.ps.length)))) ∧ IntR M' ((cutP (cutL (sideOf S.N pl b sg) S.ps S.ps.length)).map (rp (S.N * fac (cutL (sideOf S.N pl b sg) S.ps S.ps.length)))) := by
    rcases hpl with ⟨e1, e2⟩ | ⟨e1, e2⟩
    · subst e1 e2
      refine ⟨R.nice (sdR_aff1 _ _) P.edge P.nice fun u v hu hv => .inl ?_, int_cut1 hsg R P.edge P.nice P.int⟩
      unfold sdR at hu hv
      rw [if_neg (by decide)] at hu hv
      rcases sg_cases hsg with s | s <;> (rw [s] at hu hv; grind)
    · subst e1 e2
      refine ⟨R.nice (sdR_aff0 _ _) P.edge P.nice fun u v hu hv => .inr ⟨0, by omega, ?_⟩, int_cut0 (hn rfl) hsg R P.edge P.nice P.int⟩
      unfold sdR at hu hv
      rw [if_pos rfl] at hu hv
      rcases sg_cases hsg with s | s <;> (rw [s] at hu hv; push_cast; grind)
  obtain ⟨q1, q2⟩ := plain_go pos2 hM sM sX nc.1 nc.2 bd (by omega)
  refine ⟨⟨sN, sp, b1, b2, hsg, by rcases hpl with h | h <;> simp [h.1], by omega, q1⟩, fun S' H => ?_⟩
  obtain ⟨a1, a2, a3⟩ := q2 S' H
  exact ⟨a1, a2, _, R, a3⟩
/-! one cell more -/
def ledA (d : Rat) (P : List RP) : List RP := P.flatMap fun z => [(z.1 + (z.2 - d), z.2 - d), (z.1 + (z.2 + d), z.2 + d)]
theorem mem_ledA {d : Rat} {P : List RP} {x : RP} : x ∈ ledA d P ↔ ∃ z ∈ P, ∃ s : Rat, (s = d ∨ s = -d) ∧ x = (z.1 + (z.2 + s), z.2 + s) := by
  unfold ledA
  rw [List.mem_flatMap]
  constructor
  · rintro ⟨z, hz, h⟩
    have h : x = (z.1 + (z.2 - d), z.2 - d) ∨ x = (z.1 + (z.2 + d), z.2 + d) := by simpa using h
    rcases h with rfl | rfl
    · exact ⟨z, hz, -d, .inr rfl, Prod.ext (by simp only; grind) (by simp only; grind)⟩
    · exact ⟨z, hz, d, .inl rfl, rfl⟩
  · rintro ⟨z, hz, s, rfl | rfl, rfl⟩
    · exact ⟨z, hz, by simp⟩
    · exact ⟨z, hz, by
        have : ((z.1 + (z.2 + -d), z.2 + -d) : RP) = (z.1 + (z.2 - d), z.2 - d) := Prod.ext (by simp only; grind) (by simp only; grind)
        rw [this]; simp⟩
theorem ledP_map {S : Sh} {n d : Int} (h : 0 < S.N) (hd : 0 < d) {D : Rat} (hD : 360 * (n : Rat) / (d : Rat) = D) : (ledP n d S).map (rp (S.N * d)) = ledA D S.R := by
  have h1 := cpos h
  have h2 := cpos hd
  have h3 := Rat.mul_pos h1 h2
  unfold ledP ledA Sh.R
  rw [List.map_flatMap, List.flatMap_map]
  congr 1
  funext p
  subst hD
  simp only [List.map_cons, List.map_nil]
  unfold rp
  push_cast
  congr 1
  · exact Prod.ext (by simp only; grind) (by simp only; grind)
  · congr 1
    exact Prod.ext (by simp only; grind) (by simp only; grind)
theorem led_nice {n : Nat} {d : Rat} {P : List RP} (hd : 0 ≤ d) (N : NiceR n P) : NiceR (n + 1) (ledA d P) := by
  intro x hx y hy hne hl
  obtain ⟨a, ha, s, hs, rfl⟩ := mem_ledA.mp hx
  obtain ⟨b, hb, t, ht, rfl⟩ := mem_ledA.mp hy
  have at1 : ∀ z ∈ P, ∀ u : Rat, (u = d ∨ u = -d) → 0 ≤ trnR (a.1 + (a.2 + s), a.2 + s) (b.1 + (b.2 + t), b.2 + t) (z.1 + (z.2 + u), z.2 + u) := fun z hz u hu => hl _ (mem_ledA.mpr ⟨z, hz, u, hu, rfl⟩)
  have step : ∀ u : Rat, s = u → t = u → (u = d ∨ u = -d) → (a.1 + (a.2 + s), a.2 + s).2 = (b.1 + (b.2 + t), b.2 + t).2 ∨ ∃ k : Nat, k ≤ n + 1 ∧ (a.1 + (a.2 + s), a.2 + s).1 - (b.1 + (b.2 + t), b.2 + t).1 = (k : Rat) * ((a.1 + (a.2 + s), a.2 + s).2 - (b.1 + (b.2 + t), b.2 + t).2) := by
    rintro u rfl rfl hu
    have ne : a ≠ b := fun e => hne (by rw [e])
    rcases N a ha b hb ne (fun z hz => by
      have := at1 z hz _ hu
      unfold trnR at *
      simp only at this
      grind) with e | ⟨k, hk, e⟩
    · left; simp only; rw [e]
    · right
      refine ⟨k + 1, by omega, ?_⟩
      simp only
      push_cast
      grind
  by_cases h0 : b.1 = a.1
  · right
    refine ⟨1, by omega, ?_⟩
    simp only
    push_cast
    grind
  · have ea := fun u hu => at1 a ha u hu
    have eb := fun u hu => at1 b hb u hu
    have fa : ∀ u : Rat, trnR (a.1 + (a.2 + s), a.2 + s) (b.1 + (b.2 + t), b.2 + t) (a.1 + (a.2 + u), a.2 + u) = (b.1 - a.1) * (u - s) := fun u => by unfold trnR; simp only; grind
    have fb : ∀ u : Rat, trnR (a.1 + (a.2 + s), a.2 + s) (b.1 + (b.2 + t), b.2 + t) (b.1 + (b.2 + u), b.2 + u) = (b.1 - a.1) * (u - t) := fun u => by unfold trnR; simp only; grind
    by_cases hp : 0 < b.1 - a.1
    · have h1 := ea (-d) (.inr rfl)
      have h2 := eb (-d) (.inr rfl)
      rw [fa] at h1
      rw [fb] at h2
      have g1 := (sgn_sc hp).mp h1
      have g2 := (sgn_sc hp).mp h2
      exact step (-d) (by rcases hs with q | q <;> grind) (by rcases ht with q | q <;> grind) (.inr rfl)
    · have hp' : 0 < a.1 - b.1 := by grind
      have h1 := ea d (.inl rfl)
      have h2 := eb d (.inl rfl)
      rw [fa, show (b.1 - a.1) * (d - s) = (a.1 - b.1) * (s - d) by grind] at h1
      rw [fb, show (b.1 - a.1) * (d - t) = (a.1 - b.1) * (t - d) by grind] at h2
      have g1 := (sgn_sc hp').mp h1
      have g2 := (sgn_sc hp').mp h2
      exact step d (by rcases hs with q | q <;> grind) (by rcases ht with q | q <;> grind) (.inl rfl)
theorem led_int {M dr : Int} {P : List RP} (I : IntR M P) : IntR M (ledA (dr : Rat) P) := fun x hx => by
  obtain ⟨z, hz, s, hs, rfl⟩ := mem_ledA.mp hx
  obtain ⟨⟨x1, i1⟩, x2, i2⟩ := I z hz
  have es : ∃ σ : Int, s = (σ : Rat) := by
    rcases hs with rfl | rfl
    · exact ⟨dr, rfl⟩
    · exact ⟨-dr, by push_cast; rfl⟩
  obtain ⟨σ, rfl⟩ := es
  refine ⟨⟨x1 + (x2 + M * σ), ?_⟩, x2 + M * σ, ?_⟩
  · push_cast; rw [← i1, ← i2]; grind
  · push_cast; rw [← i2]; grind
theorem led_bd {X dr : Int} {P : List RP} (h0 : 0 ≤ dr) (h1 : dr ≤ X) (I : BdR X P) : BdR (4 * X) (ledA (dr : Rat) P) := fun x hx => by
  obtain ⟨z, hz, s, hs, rfl⟩ := mem_ledA.mp hx
  obtain ⟨⟨a1, a2⟩, a3, a4⟩ := I z hz
  have d0 : (0 : Rat) ≤ (dr : Rat) := by exact_mod_cast h0
  have d1 : (dr : Rat) ≤ (X : Rat) := by exact_mod_cast h1
  have s1 : -(X : Rat) ≤ s ∧ s ≤ X := by rcases hs with rfl | rfl <;> exact ⟨by grind, by grind⟩
  have x0 : (0 : Rat) ≤ X := by grind
  push_cast
  exact ⟨⟨by grind, by grind⟩, by grind, by grind⟩
theorem led_sup {d : Rat} {P : List RP} {m l l' : Rat} (h : Sup P (m, l)) (h1 : l' - l ≤ d) (h2 : l - l' ≤ d) : Sup (ledA d P) (m + l', l') := fun α β => by
  obtain ⟨v, hv, e⟩ := h α (α + β)
  simp only at e ⊢
  by_cases q : 0 ≤ α + β
  · refine ⟨_, mem_ledA.mpr ⟨v, hv, d, .inl rfl, rfl⟩, ?_⟩
    have := nn_mul q (show 0 ≤ d - (l' - l) by grind)
    simp only
    grind
  · refine ⟨_, mem_ledA.mpr ⟨v, hv, -d, .inr rfl, rfl⟩, ?_⟩
    have := nn_mul (show 0 ≤ -(α + β) by grind) (show 0 ≤ d - (l - l') by grind)
    simp only
    grind
theorem led_go {n : Nat} {M X dr cell : Int} {S : Sh} (hn : n ≤ 42) (d0 : 0 ≤ dr) (d1 : dr ≤ X) (sn1 : Sm 30 (fr dr).1) (sd : Sm 30 (fr dr).2) (sc : Sm 300 cell) (hM : 0 < M) (sM : Sm 1000 M) (sX : Sm 1000 (4 * X)) (Z : Szs n S) (P : Shp n M X S.R) :
    LedPre (fr dr).1 (fr dr).2 cell S ∧ ∀ S', LedR (fr dr).1 (fr dr).2 cell S S' → Szs (n + 1) S' ∧ Shp (n + 1) M (4 * X) S'.R ∧ ∃ C A, HulR (ledA (dr : Rat) S.R) C ∧ CutRel (sdR 1 ((360 * cell : Int) : Rat) 1) C A ∧ HulR A S'.R := by
  have dp : 0 < (fr dr).2 := (V.fr dr).pos
  have fv := fr_val dr
  have lm := ledP_map (S := S) Z.pos dp fv
  have nc := led_nice (n := n) (d := (dr : Rat)) (by exact_mod_cast d0) P.nice
  have ii := led_int (dr := dr) P.int
  have bb := led_bd d0 d1 P.bd
  have pN : 0 < S.N * (fr dr).2 := Int.mul_pos Z.pos dp
  have sN : Sm 4000 (S.N * (fr dr).2) := (Z.sN.mul sd).mono (by decide)
  have slp : ∀ p ∈ ledP (fr dr).1 (fr dr).2 S, Sm 4000 p.1 ∧ Sm 4000 p.2 := fun p hp => by
    unfold ledP at hp
    obtain ⟨q, hq, hp⟩ := List.mem_flatMap.mp hp
    have q1 := (Z.sp q hq).1
    have q2 := (Z.sp q hq).2
    have k1 : Sm 2030 (q.1 * (fr dr).2) := (q1.mul sd).mono (by decide)
    have k2 : Sm 2030 (q.2 * (fr dr).2) := (q2.mul sd).mono (by decide)
    have k3 : Sm 2030 ((fr dr).1 * S.N) := (sn1.mul Z.sN).mono (by decide)
    have h : p = (q.1 * (fr dr).2 + (q.2 * (fr dr).2 - (fr dr).1 * S.N), q.2 * (fr dr).2 - (fr dr).1 * S.N) ∨ p = (q.1 * (fr dr).2 + (q.2 * (fr dr).2 + (fr dr).1 * S.N), q.2 * (fr dr).2 + (fr dr).1 * S.N) := by simpa using hp
    rcases h with rfl | rfl
    · exact ⟨((k1.mono (by decide : 2030 ≤ 2031)).add (k2.sub k3)).mono (by decide), (k2.sub k3).mono (by decide)⟩
    · exact ⟨((k1.mono (by decide : 2030 ≤ 2031)).add (k2.add k3)).mono (by decide), (k2.add k3).mono (by decide)⟩
  have hull : ∀ hs, Hul (ledP (fr dr).1 (fr dr).2 S) hs → HulR (ledA (dr : Rat) S.R) (Sh.R ⟨S.N * (fr dr).2, hs⟩) ∧ CutPre ⟨S.N * (fr dr).2, hs⟩ 1 (cell, 1) 1 ∧ ∀ S', CutR ⟨S.N * (fr dr).2, hs⟩ 1 (cell, 1) 1 S' → Szs (n + 1) S' ∧ Shp (n + 1) M (4 * X) S'.R ∧ ∃ A, CutRel (sdR 1 ((360 * cell : Int) : Rat) 1) (Sh.R ⟨S.N * (fr dr).2, hs⟩) A ∧ HulR A S'.R := fun hs H => by
    obtain ⟨h1, h2⟩ := hulR pN H
    rw [lm] at h1 h2
    have hl := h2 (n + 1) nc
    refine ⟨h1, cut_go (M := M) (M' := M) (X := 4 * X) (c := 360 * cell) (fun z => by omega) pN sN (fun p hp => slp p ((hul_ok H).sub p hp)) (by show hs.length ≤ 150; omega) (sc.mono (by decide)) ((Sm.of (a := 1) (x := 1) 1 (by decide)).mono (by decide)) (show (0 : Int) < 1 by decide) (.inl rfl) (by push_cast; grind) (.inl ⟨rfl, rfl⟩) hM sM sX (h1.shp nc ii bb)⟩
  refine ⟨⟨Z.sN.mono (by decide), fun p hp => ⟨(Z.sp p hp).1.mono (by decide), (Z.sp p hp).2.mono (by decide)⟩, sn1, sd, dp, sc, by have := Z.len; omega, fun hs H => (hull hs H).2.1⟩, fun S' ⟨hs, H, C⟩ => ?_⟩
  obtain ⟨a1, _, a2⟩ := hull hs H
  obtain ⟨b1, b2, A, b3, b4⟩ := a2 S' C
  exact ⟨b1, b2, _, A, a1, b3, b4⟩
end FM
end
section
set_option Elab.async false
set_option linter.all false
set_option maxRecDepth 100000
/-! The first cell. -/
namespace FM
def begA (lo hi c g : Rat) : List RP := [(lo + c, c), (lo + g, g), (hi + c, c), (hi + g, g)]
theorem begQ_rp {N D E e e' : Int} (h : 0 < N) (hD : 0 < D) (hE : 0 < E) (h1 : N = D * e) (h2 : N = E * e') {x y u v : Int} (hx : 360 * (x : Rat) / (D : Rat) = (u : Rat)) (hy : 360 * (y : Rat) / (E : Rat) = (v : Rat)) :
    rp N (x * (N / D) + y * (N / E), y * (N / E)) = ((u : Rat) + v, (v : Rat)) := by
  have n0 := cpos h
  have d0 := cpos hD
  have e0 := cpos hE
  have q1 : N / D = e := by rw [h1]; exact Int.mul_ediv_cancel_left _ (by omega)
  have q2 : N / E = e' := by rw [h2]; exact Int.mul_ediv_cancel_left _ (by omega)
  rw [q1, q2]
  have c1 : (N : Rat) = (D : Rat) * e := by rw [h1]; push_cast; rfl
  have c2 : (N : Rat) = (E : Rat) * e' := by rw [h2]; push_cast; rfl
  have f1 : 360 * ((x : Rat) * e) / (N : Rat) = u := by rw [← hx]; grind
  have f2 : 360 * ((y : Rat) * e') / (N : Rat) = v := by rw [← hy]; grind
  unfold rp
  push_cast
  exact Prod.ext (by simp only; rw [← f1, ← f2]; grind) (by simp only; exact f2)
theorem begP_map {low high lst : Int × Int} {cell lo hi g : Int} (p1 : 0 < low.2) (p2 : 0 < high.2) (p3 : 0 < lst.2) (h1 : 360 * (low.1 : Rat) / (low.2 : Rat) = (lo : Rat)) (h2 : 360 * (high.1 : Rat) / (high.2 : Rat) = (hi : Rat)) (h3 : 360 * (lst.1 : Rat) / (lst.2 : Rat) = (g : Rat)) :
    (begP low high lst cell).map (rp (low.2 * high.2 * lst.2)) = begA (lo : Rat) (hi : Rat) ((360 * cell : Int) : Rat) (g : Rat) := by
  have hN : 0 < low.2 * high.2 * lst.2 := Int.mul_pos (Int.mul_pos p1 p2) p3
  have hc : 360 * (cell : Rat) / ((1 : Int) : Rat) = ((360 * cell : Int) : Rat) := by push_cast; grind
  have e1 : low.2 * high.2 * lst.2 = low.2 * (high.2 * lst.2) := by grind
  have e2 : low.2 * high.2 * lst.2 = high.2 * (low.2 * lst.2) := by grind
  have e3 : low.2 * high.2 * lst.2 = lst.2 * (low.2 * high.2) := by grind
  have e4 : low.2 * high.2 * lst.2 = 1 * (low.2 * high.2 * lst.2) := by grind
  unfold begP begA
  simp only [List.map_cons, List.map_nil]
  rw [begQ_rp hN p1 (by decide) e1 e4 h1 hc, begQ_rp hN p1 p3 e1 e3 h1 h3, begQ_rp hN p2 (by decide) e2 e4 h2 hc, begQ_rp hN p2 p3 e2 e3 h2 h3]
theorem begA_nice {lo hi c g : Rat} : NiceR 1 (begA lo hi c g) := by
  intro a ha b hb hne hl
  have mem : ∀ z : RP, z ∈ begA lo hi c g ↔ ∃ s l, (s = lo ∨ s = hi) ∧ (l = c ∨ l = g) ∧ z = (s + l, l) := fun z => by
    unfold begA
    simp only [List.mem_cons, List.not_mem_nil, or_false]
    constructor
    · rintro (rfl | rfl | rfl | rfl)
      · exact ⟨lo, c, .inl rfl, .inl rfl, rfl⟩
      · exact ⟨lo, g, .inl rfl, .inr rfl, rfl⟩
      · exact ⟨hi, c, .inr rfl, .inl rfl, rfl⟩
      · exact ⟨hi, g, .inr rfl, .inr rfl, rfl⟩
    · rintro ⟨s, l, rfl | rfl, rfl | rfl, rfl⟩ <;> simp
  obtain ⟨s, l, hs, hl1, rfl⟩ := (mem a).mp ha
  obtain ⟨s', l', hs', hl', rfl⟩ := (mem b).mp hb
  by_cases es : s = s'
  · right
    refine ⟨1, by omega, ?_⟩
    simp only
    push_cast
    grind
  · left
    have k1 := hl _ ((mem (s + l', l')).mpr ⟨s, l', hs, hl', rfl⟩)
    have k2 := hl _ ((mem (s' + l, l)).mpr ⟨s', l, hs', hl1, rfl⟩)
    have e1 : trnR (s + l, l) (s' + l', l') (s + l', l') = (s' - s) * (l' - l) := by unfold trnR; simp only; grind
    have e2 : trnR (s + l, l) (s' + l', l') (s' + l, l) = -((s' - s) * (l' - l)) := by unfold trnR; simp only; grind
    rw [e1] at k1
    rw [e2] at k2
    have : (s' - s) * (l' - l) = 0 := by grind
    simp only
    rcases Rat.mul_eq_zero.mp this with q | q
    · exact absurd (show s = s' by grind) es
    · grind
theorem beg_short {c x : Int} : (fr x).1 * 1 < c * (fr x).2 ↔ x < 360 * c := by
  have v := (V.fr x).lt (V.one c)
  constructor
  · intro h
    have := v.mp (by simpa using h)
    omega
  · intro h
    have := v.mpr (by omega)
    simpa using this
theorem beg_go {cell f m sh X : Int} (bX : ∀ u ∈ [f - sh, f + sh], ∀ v ∈ [360 * cell, m - f + sh * 2], (-X ≤ u + v ∧ u + v ≤ X) ∧ -X ≤ v ∧ v ≤ X) (sX : Sm 1000 X) :
    PlainPre ((fr (f - sh)).2 * (fr (f + sh)).2 * (fr (m - f + sh * 2)).2) (begP (fr (f - sh)) (fr (f + sh)) (fr (m - f + sh * 2)) cell) ∧
    ∀ S, BegR cell (fr (f - sh)) (fr (f + sh)) (fr (m - f + sh * 2)) S → (m - f + sh * 2 < 360 * cell ∧ S.ps = []) ∨ (360 * cell ≤ m - f + sh * 2 ∧ Szs 1 S ∧ Shp 1 1 X S.R ∧ HulR (begA ((f - sh : Int) : Rat) ((f + sh : Int) : Rat) ((360 * cell : Int) : Rat) ((m - f + sh * 2 : Int) : Rat)) S.R) := by
  have p1 := (V.fr (f - sh)).pos
  have p2 := (V.fr (f + sh)).pos
  have p3 := (V.fr (m - f + sh * 2)).pos
  have em := begP_map (cell := cell) p1 p2 p3 (fr_val _) (fr_val _) (fr_val _)
  have hN : 0 < (fr (f - sh)).2 * (fr (f + sh)).2 * (fr (m - f + sh * 2)).2 := Int.mul_pos (Int.mul_pos p1 p2) p3
  have I : IntR 1 (begA ((f - sh : Int) : Rat) ((f + sh : Int) : Rat) ((360 * cell : Int) : Rat) ((m - f + sh * 2 : Int) : Rat)) := fun z hz => by
    unfold begA at hz
    simp only [List.mem_cons, List.not_mem_nil, or_false] at hz
    rcases hz with rfl | rfl | rfl | rfl
    · exact ⟨⟨(f - sh) + 360 * cell, by push_cast; grind⟩, 360 * cell, by push_cast; grind⟩
    · exact ⟨⟨(f - sh) + (m - f + sh * 2), by push_cast; grind⟩, m - f + sh * 2, by push_cast; grind⟩
    · exact ⟨⟨(f + sh) + 360 * cell, by push_cast; grind⟩, 360 * cell, by push_cast; grind⟩
    · exact ⟨⟨(f + sh) + (m - f + sh * 2), by push_cast; grind⟩, m - f + sh * 2, by push_cast; grind⟩
  have Bd : BdR X (begA ((f - sh : Int) : Rat) ((f + sh : Int) : Rat) ((360 * cell : Int) : Rat) ((m - f + sh * 2 : Int) : Rat)) := fun z hz => by
    have cs : ∀ u v : Int, ((-X ≤ u + v ∧ u + v ≤ X) ∧ -X ≤ v ∧ v ≤ X) → (-(X : Rat) ≤ (u : Rat) + v ∧ (u : Rat) + v ≤ X) ∧ -(X : Rat) ≤ v ∧ (v : Rat) ≤ X := fun u v h => by
      obtain ⟨⟨a, b⟩, c, d⟩ := h
      exact ⟨⟨by exact_mod_cast a, by exact_mod_cast b⟩, by exact_mod_cast c, by exact_mod_cast d⟩
    unfold begA at hz
    simp only [List.mem_cons, List.not_mem_nil, or_false] at hz
    rcases hz with rfl | rfl | rfl | rfl
    · exact cs _ _ (bX (f - sh) (by simp) (360 * cell) (by simp))
    · exact cs _ _ (bX (f - sh) (by simp) (m - f + sh * 2) (by simp))
    · exact cs _ _ (bX (f + sh) (by simp) (360 * cell) (by simp))
    · exact cs _ _ (bX (f + sh) (by simp) (m - f + sh * 2) (by simp))
  obtain ⟨q1, q2⟩ := plain_go (M := 1) (X := X) (n := 1) hN (by decide) ((Sm.of (a := 1) (x := 1) 1 (by decide)).mono (by decide)) sX (by rw [em]; exact begA_nice) (by rw [em]; exact I) (by rw [em]; exact Bd) (by show 4 ≤ 300; decide)
  refine ⟨q1, fun S H => ?_⟩
  unfold BegR at H
  rw [beg_short] at H
  rcases H with ⟨h, rfl⟩ | ⟨h, H⟩
  · exact .inl ⟨h, rfl⟩
  · obtain ⟨a1, a2, a3⟩ := q2 S H
    rw [em] at a3
    exact .inr ⟨by omega, a1, a2, a3⟩
end FM
end
section
set_option Elab.async false
set_option linter.all false
set_option maxRecDepth 100000
/-! The true telling, and what the shapes along it keep. -/
namespace FM
structure Evn where
  cell : Int
  dr : Int
  sh : Int
  X0 : Int
  T : Nat
  L : Nat
  F : Nat → Int
  cs : Nat → Nat
  H : Nat → Int
structure Evn.Ok (e : Evn) : Prop where
  c1 : 1 ≤ e.cell
  cS : Sm 300 e.cell
  d0 : 0 ≤ e.dr
  d1 : e.dr ≤ 10000
  s0 : 0 ≤ e.sh
  s1 : e.sh ≤ 10000
  ge : ∀ c, c < e.T → 360 * e.cell ≤ e.F (c + 1) - e.F c
  up : ∀ c, c + 1 < e.T → (e.F (c + 2) - e.F (c + 1)) - (e.F (c + 1) - e.F c) ≤ e.dr ∧ (e.F (c + 1) - e.F c) - (e.F (c + 2) - e.F (c + 1)) ≤ e.dr
  c0 : e.cs 0 = 0
  cm : ∀ i, i < e.L → e.cs i < e.cs (i + 1)
  cT : e.cs e.L = e.T
  T42 : e.T ≤ 42
  L7 : e.L ≤ 7
  L1 : 1 ≤ e.L
  hr : ∀ i, i ≤ e.L → -e.sh ≤ e.H i - e.F (e.cs i) ∧ e.H i - e.F (e.cs i) ≤ e.sh
  hS : ∀ i, i ≤ e.L → Sm 300 (e.H i)
  bX : ∀ u ∈ [e.H 0 - e.sh, e.H 0 + e.sh], ∀ v ∈ [360 * e.cell, e.H 1 - e.H 0 + e.sh * 2], (-e.X0 ≤ u + v ∧ u + v ≤ e.X0) ∧ -e.X0 ≤ v ∧ v ≤ e.X0
  sX : Sm 400 e.X0
  dX : e.dr ≤ e.X0
def W1 (dr sh t F f : Rat) (z : RP) : Rat := F - z.1 + 2 * sh - t * (f - z.2) + dr * (t * (t - 1))
def W2 (dr sh t F f : Rat) (z : RP) : Rat := -(F - z.1) + 2 * sh + t * (f - z.2) + dr * (t * (t - 1))
theorem W1_aff (dr sh t F f : Rat) : Aff (W1 dr sh t F f) (-1) t (F + 2 * sh - t * f + dr * (t * (t - 1))) := ⟨fun z => by unfold W1; grind⟩
theorem W2_aff (dr sh t F f : Rat) : Aff (W2 dr sh t F f) 1 (-t) (-F + 2 * sh + t * f + dr * (t * (t - 1))) := ⟨fun z => by unfold W2; grind⟩
theorem led_s {d s : Rat} (h : s = d ∨ s = -d) (h0 : 0 ≤ d) : -d ≤ s ∧ s ≤ d := by
  rcases h with rfl | rfl
  · exact ⟨by grind, by grind⟩
  · exact ⟨by grind, by grind⟩
theorem W1_led {dr sh t F f f' : Rat} {P : List RP} (d0 : 0 ≤ dr) (t0 : 0 ≤ t) (h : ∀ z ∈ P, 0 ≤ W1 dr sh t F f z) (h1 : f' - f ≤ dr) (h2 : f - f' ≤ dr) : ∀ z ∈ ledA dr P, 0 ≤ W1 dr sh (t + 1) (F + f') f' z := fun x hx => by
  obtain ⟨z, hz, s, hs, rfl⟩ := mem_ledA.mp hx
  obtain ⟨s1, s2⟩ := led_s hs d0
  have a := h z hz
  have b := nn_mul t0 (show 0 ≤ (f - f') + s + 2 * dr by grind)
  unfold W1 at *
  simp only
  grind
theorem W2_led {dr sh t F f f' : Rat} {P : List RP} (d0 : 0 ≤ dr) (t0 : 0 ≤ t) (h : ∀ z ∈ P, 0 ≤ W2 dr sh t F f z) (h1 : f' - f ≤ dr) (h2 : f - f' ≤ dr) : ∀ z ∈ ledA dr P, 0 ≤ W2 dr sh (t + 1) (F + f') f' z := fun x hx => by
  obtain ⟨z, hz, s, hs, rfl⟩ := mem_ledA.mp hx
  obtain ⟨s1, s2⟩ := led_s hs d0
  have a := h z hz
  have b := nn_mul t0 (show 0 ≤ (f' - f) - s + 2 * dr by grind)
  unfold W2 at *
  simp only
  grind
theorem led_all {d : Rat} {f : RP → Rat} {P C A R' : List RP} (h1 : HulR (ledA d P) C) (h2 : CutRel f C A) (h3 : HulR A R') {g : RP → Rat} {α β γ : Rat} (hg : Aff g α β γ) (h : ∀ z ∈ ledA d P, 0 ≤ g z) : ∀ z ∈ R', 0 ≤ g z := fun z hz =>
  h2.lin hg (fun z hz => h z (h1.sub z hz)) z (h3.sub z hz)
def Fr (e : Evn) (n : Nat) : Rat := (e.F n : Rat)
def ff (e : Evn) (n : Nat) : Rat := Fr e n - Fr e (n - 1)
def Mg (g : Nat) : Int := Lc ^ g
def Xn (e : Evn) (n : Nat) : Int := 4 ^ n * e.X0
theorem Mg_pos (g : Nat) : 0 < Mg g := Int.pow_pos (by decide)
theorem Mg_succ (g : Nat) : Mg (g + 1) = Lc * Mg g := by unfold Mg; rw [Int.pow_succ, Int.mul_comm]
theorem Mg_sm : ∀ {g : Nat}, g ≤ 17 → Sm 1000 (Mg g) := fun {g} h => by
  have key : ∀ g : Nat, Sm (58 * g + 1) (Mg g) := fun g => by
    induction g with
    | zero => exact Sm.of (a := 1) 1 (by decide)
    | succ g ih =>
      rw [Mg_succ]
      have : Sm 58 Lc := Sm.of Lc.natAbs (Nat.le_refl _) (by decide +kernel)
      exact (this.mul ih).mono (by omega)
  exact (key g).mono (by omega)
theorem Xn_sm {e : Evn} (h : e.Ok) {n : Nat} (hn : n ≤ 43) : Sm 1000 (Xn e n) := by
  have key : ∀ n : Nat, Sm (3 * n + 400) (Xn e n) := fun n => by
    induction n with
    | zero => unfold Xn; rw [Int.pow_zero, Int.one_mul]; exact h.sX.mono (by omega)
    | succ n ih =>
      have e1 : Xn e (n + 1) = 4 * Xn e n := by unfold Xn; rw [Int.pow_succ]; grind
      rw [e1]
      exact ((Sm.of (a := 3) (x := 4) 4 (by decide)).mul ih).mono (by omega)
  exact (key n).mono (by omega)
theorem Xn_succ (e : Evn) (n : Nat) : Xn e (n + 1) = 4 * Xn e n := by unfold Xn; rw [Int.pow_succ]; grind
theorem Xn_ge {e : Evn} (h : e.Ok) (n : Nat) : e.X0 ≤ Xn e n := by
  have x0 : 0 ≤ e.X0 := by have := h.dX; have := h.d0; omega
  induction n with
  | zero => unfold Xn; rw [Int.pow_zero, Int.one_mul]; exact Int.le_refl _
  | succ n ih => rw [Xn_succ]; omega
/-- a shape along the true telling: i marks are told, n cells, g cuts by moments -/
structure Inv (e : Evn) (g i n : Nat) (S : Sh) : Prop where
  n1 : 1 ≤ n
  szs : Szs n S
  shp : Shp n (Mg g) (Xn e n) S.R
  sup : Sup S.R (Fr e n, ff e n)
  low : ∀ z ∈ S.R, 0 ≤ z.2 - 360 * (e.cell : Rat)
  w : ∀ j, j ≤ i → e.cs j ≤ n ∧ (∀ z ∈ S.R, 0 ≤ W1 e.dr e.sh ((n - e.cs j : Nat) : Rat) (Fr e n) (ff e n) z) ∧ ∀ z ∈ S.R, 0 ≤ W2 e.dr e.sh ((n - e.cs j : Nat) : Rat) (Fr e n) (ff e n) z
theorem sup_ne {S : Sh} {q : RP} (h : Sup S.R q) : S.ps ≠ [] := fun z => by
  obtain ⟨v, hv, _⟩ := h 0 0
  unfold Sh.R at hv
  rw [z] at hv
  cases hv
theorem Evn.Ok.f1 {e : Evn} (h : e.Ok) {n : Nat} (h1 : 1 ≤ n) (h2 : n ≤ e.T) : 360 * (e.cell : Rat) ≤ ff e n := by
  have := h.ge (n - 1) (by omega)
  rw [show n - 1 + 1 = n by omega] at this
  unfold ff Fr
  exact_mod_cast this
theorem Evn.Ok.f2 {e : Evn} (h : e.Ok) {n : Nat} (h1 : 1 ≤ n) (h2 : n + 1 ≤ e.T) : ff e (n + 1) - ff e n ≤ (e.dr : Rat) ∧ ff e n - ff e (n + 1) ≤ (e.dr : Rat) := by
  have := h.up (n - 1) (by omega)
  rw [show n - 1 + 2 = n + 1 by omega, show n - 1 + 1 = n by omega] at this
  unfold ff Fr
  rw [show n + 1 - 1 = n by omega]
  exact ⟨by exact_mod_cast this.1, by exact_mod_cast this.2⟩
theorem Fr_succ (e : Evn) (n : Nat) : Fr e (n + 1) = Fr e n + ff e (n + 1) := by
  unfold ff
  rw [show n + 1 - 1 = n by omega]
  grind
theorem sm_fr {e : Evn} (h : e.Ok) : Sm 30 (fr e.dr).1 ∧ Sm 30 (fr e.dr).2 := by
  have b : Bq 23 (fr e.dr) := Bq.fr (k := 14) (Sm.of 10000 (by have := h.d0; have := h.d1; omega))
  exact ⟨b.n.mono (by decide), b.d.mono (by decide)⟩
/-- one cell more of any shape: what it must be, and what comes -/
theorem led_any {e : Evn} (h : e.Ok) {g n : Nat} {S : Sh} (hg : g ≤ 17) (hn : n + 1 ≤ 42) (Z : Szs n S) (P : Shp n (Mg g) (Xn e n) S.R) :
    LedPre (fr e.dr).1 (fr e.dr).2 e.cell S ∧ ∀ S', LedR (fr e.dr).1 (fr e.dr).2 e.cell S S' → Szs (n + 1) S' ∧ Shp (n + 1) (Mg g) (Xn e (n + 1)) S'.R ∧ ∃ C A, HulR (ledA (e.dr : Rat) S.R) C ∧ CutRel (sdR 1 ((360 * e.cell : Int) : Rat) 1) C A ∧ HulR A S'.R := by
  have dX : e.dr ≤ Xn e n := by have := h.dX; have := Xn_ge h n; omega
  rw [Xn_succ]
  exact led_go (n := n) (M := Mg g) (X := Xn e n) (by omega) h.d0 dX (sm_fr h).1 (sm_fr h).2 h.cS (Mg_pos g) (Mg_sm hg) (by rw [← Xn_succ]; exact Xn_sm h (by omega)) Z P
theorem low_go {d c : Rat} {P C A R' : List RP} (h2 : CutRel (sdR 1 c 1) C A) (h3 : HulR A R') : ∀ z ∈ R', 0 ≤ z.2 - c := fun z hz => by
  have := h2.nn (sdR_aff1 _ _) z (h3.sub z hz)
  unfold sdR at this
  rw [if_neg (by decide)] at this
  push_cast at this
  grind
theorem Inv.led {e : Evn} (h : e.Ok) {g i n : Nat} {S : Sh} (I : Inv e g i n S) (hg : g ≤ 17) (hn : n + 1 ≤ e.T) :
    LedPre (fr e.dr).1 (fr e.dr).2 e.cell S ∧ ∀ S', LedR (fr e.dr).1 (fr e.dr).2 e.cell S S' → Inv e g i (n + 1) S' := by
  have T42 := h.T42
  obtain ⟨a, b⟩ := led_any h hg (by omega) I.szs I.shp
  refine ⟨a, fun S' hS' => ?_⟩
  obtain ⟨z, p, C, A, h1, h2, h3⟩ := b S' hS'
  obtain ⟨f1, f2⟩ := h.f2 I.n1 hn
  have d0 : (0 : Rat) ≤ (e.dr : Rat) := by exact_mod_cast h.d0
  refine ⟨by omega, z, p, ?_, fun z hz => ?_, fun j hj => ?_⟩
  · rw [Fr_succ]
    have s1 := led_sup I.sup f1 f2
    have s2 := h1.supQ s1
    refine h3.supQ (h2.sup (sdR_aff1 _ _) h1.edge s2 ?_)
    have := h.f1 (n := n + 1) (by omega) hn
    unfold sdR
    rw [if_neg (by decide)]
    push_cast
    grind
  · have := low_go (d := e.dr) (P := S.R) h2 h3 z hz
    push_cast at this
    exact this
  · obtain ⟨w0, w1, w2⟩ := I.w j hj
    have t0 : (0 : Rat) ≤ ((n - e.cs j : Nat) : Rat) := by exact_mod_cast Nat.zero_le _
    have et : ((n + 1 - e.cs j : Nat) : Rat) = ((n - e.cs j : Nat) : Rat) + 1 := by
      rw [show n + 1 - e.cs j = (n - e.cs j) + 1 by omega]
      push_cast
      rfl
    rw [et, Fr_succ]
    exact ⟨by omega, led_all h1 h2 h3 (W1_aff _ _ _ _ _) (W1_led d0 t0 w1 f1 f2), led_all h1 h2 h3 (W2_aff _ _ _ _ _) (W2_led d0 t0 w2 f1 f2)⟩
/-- the first cell -/
theorem Inv.beg {e : Evn} (h : e.Ok) : PlainPre ((fr (e.H 0 - e.sh)).2 * (fr (e.H 0 + e.sh)).2 * (fr (e.H 1 - e.H 0 + e.sh * 2)).2) (begP (fr (e.H 0 - e.sh)) (fr (e.H 0 + e.sh)) (fr (e.H 1 - e.H 0 + e.sh * 2)) e.cell) ∧
    ∀ S, BegR e.cell (fr (e.H 0 - e.sh)) (fr (e.H 0 + e.sh)) (fr (e.H 1 - e.H 0 + e.sh * 2)) S → Inv e 0 0 1 S := by
  obtain ⟨a, b⟩ := beg_go h.bX (h.sX.mono (by decide))
  refine ⟨a, fun S hS => ?_⟩
  have l1 := h.L1
  have c1 : e.cs 0 < e.cs 1 := h.cm 0 (by omega)
  have h0 := h.hr 0 (by omega)
  have h1 := h.hr 1 (by omega)
  have c0 := h.c0
  -- the true first cell is short enough
  have tot : ∀ d, 1 + d ≤ e.T → e.F 1 ≤ e.F (1 + d) := fun d => by
    induction d with
    | zero => intro _; exact Int.le_refl _
    | succ d ih =>
      intro hd
      have := ih (by omega)
      have g := h.ge (1 + d) (by omega)
      have := h.c1
      rw [show 1 + (d + 1) = 1 + d + 1 by omega]
      omega
  have csT : ∀ d i, i + d = e.L → e.cs i + d ≤ e.T := fun d => by
    induction d with
    | zero => intro i hi; rw [← h.cT, ← hi]; exact Nat.le_refl _
    | succ d ih => intro i hi; have := ih (i + 1) (by omega); have := h.cm i (by omega); omega
  have cs1 := csT (e.L - 1) 1 (by omega)
  have t1 := tot (e.cs 1 - 1) (by omega)
  rw [show 1 + (e.cs 1 - 1) = e.cs 1 by omega] at t1
  have g0 : 360 * e.cell ≤ e.F 1 - e.F 0 := h.ge 0 (by omega)
  rw [c0] at h0
  have fl : e.F 1 - e.F 0 ≤ e.H 1 - e.H 0 + e.sh * 2 := by omega
  rcases b S hS with ⟨q, _⟩ | ⟨_, z, p, H⟩
  · omega
  have mem : ∀ u l : Rat, (u = ((e.H 0 - e.sh : Int) : Rat) ∨ u = ((e.H 0 + e.sh : Int) : Rat)) → (l = ((360 * e.cell : Int) : Rat) ∨ l = ((e.H 1 - e.H 0 + e.sh * 2 : Int) : Rat)) → (u + l, l) ∈ begA ((e.H 0 - e.sh : Int) : Rat) ((e.H 0 + e.sh : Int) : Rat) ((360 * e.cell : Int) : Rat) ((e.H 1 - e.H 0 + e.sh * 2 : Int) : Rat) := fun u l hu hl => by
    unfold begA
    rcases hu with rfl | rfl <;> rcases hl with rfl | rfl <;> simp
  have all : ∀ z ∈ begA ((e.H 0 - e.sh : Int) : Rat) ((e.H 0 + e.sh : Int) : Rat) ((360 * e.cell : Int) : Rat) ((e.H 1 - e.H 0 + e.sh * 2 : Int) : Rat), ∃ u l : Rat, (u = ((e.H 0 - e.sh : Int) : Rat) ∨ u = ((e.H 0 + e.sh : Int) : Rat)) ∧ (l = ((360 * e.cell : Int) : Rat) ∨ l = ((e.H 1 - e.H 0 + e.sh * 2 : Int) : Rat)) ∧ z = (u + l, l) := fun z hz => by
    unfold begA at hz
    simp only [List.mem_cons, List.not_mem_nil, or_false] at hz
    rcases hz with rfl | rfl | rfl | rfl
    · exact ⟨_, _, .inl rfl, .inl rfl, rfl⟩
    · exact ⟨_, _, .inl rfl, .inr rfl, rfl⟩
    · exact ⟨_, _, .inr rfl, .inl rfl, rfl⟩
    · exact ⟨_, _, .inr rfl, .inr rfl, rfl⟩
  have b0 : (((e.H 0 - e.sh : Int) : Rat) ≤ (e.F 0 : Rat)) ∧ (e.F 0 : Rat) ≤ ((e.H 0 + e.sh : Int) : Rat) := ⟨by exact_mod_cast (by omega : e.H 0 - e.sh ≤ e.F 0), by exact_mod_cast (by omega : e.F 0 ≤ e.H 0 + e.sh)⟩
  have b1 : (((360 * e.cell : Int) : Rat) ≤ (e.F 1 : Rat) - (e.F 0 : Rat)) ∧ (e.F 1 : Rat) - (e.F 0 : Rat) ≤ ((e.H 1 - e.H 0 + e.sh * 2 : Int) : Rat) := ⟨by exact_mod_cast (by omega : 360 * e.cell ≤ e.F 1 - e.F 0), by exact_mod_cast fl⟩
  have lh : ((e.H 0 + e.sh : Int) : Rat) - ((e.H 0 - e.sh : Int) : Rat) = 2 * (e.sh : Rat) := by push_cast; grind
  generalize hlo : ((e.H 0 - e.sh : Int) : Rat) = lo at *
  generalize hhi : ((e.H 0 + e.sh : Int) : Rat) = hi at *
  generalize hg : ((e.H 1 - e.H 0 + e.sh * 2 : Int) : Rat) = gg at *
  have hc : ((360 * e.cell : Int) : Rat) = 360 * (e.cell : Rat) := by push_cast; rfl
  generalize ((360 * e.cell : Int) : Rat) = cc at *
  have s0 : (0 : Rat) ≤ (e.sh : Rat) := by exact_mod_cast h.s0
  have x1 : Xn e 1 = 4 * e.X0 := by unfold Xn; rw [Int.pow_one]
  have xx : (0 : Rat) ≤ (e.X0 : Rat) := by exact_mod_cast (by have := h.dX; have := h.d0; omega : 0 ≤ e.X0)
  have e1 : ff e 1 = (e.F 1 : Rat) - (e.F 0 : Rat) := rfl
  have e2 : Fr e 1 = (e.F 1 : Rat) := rfl
  refine ⟨by omega, z, ⟨p.edge, p.nice, p.int, fun z hz => ?_⟩, ?_, fun z hz => ?_, fun j hj => ?_⟩
  · obtain ⟨⟨a1, a2⟩, a3, a4⟩ := p.bd z hz
    rw [x1]
    push_cast
    exact ⟨⟨by grind, by grind⟩, by grind, by grind⟩
  · refine H.supQ fun α β => ?_
    rw [e1, e2]
    simp only
    obtain ⟨u, hu, ku⟩ : ∃ u, (u = lo ∨ u = hi) ∧ α * (e.F 0 : Rat) ≤ α * u := by
      by_cases q : 0 ≤ α
      · have := nn_mul q (show 0 ≤ hi - (e.F 0 : Rat) by grind)
        exact ⟨hi, .inr rfl, by grind⟩
      · have := nn_mul (show 0 ≤ -α by grind) (show 0 ≤ (e.F 0 : Rat) - lo by grind)
        exact ⟨lo, .inl rfl, by grind⟩
    obtain ⟨l, hl, kl⟩ : ∃ l, (l = cc ∨ l = gg) ∧ (α + β) * ((e.F 1 : Rat) - (e.F 0 : Rat)) ≤ (α + β) * l := by
      by_cases q : 0 ≤ α + β
      · have := nn_mul q (show 0 ≤ gg - ((e.F 1 : Rat) - (e.F 0 : Rat)) by grind)
        exact ⟨gg, .inr rfl, by grind⟩
      · have := nn_mul (show 0 ≤ -(α + β) by grind) (show 0 ≤ ((e.F 1 : Rat) - (e.F 0 : Rat)) - cc by grind)
        exact ⟨cc, .inl rfl, by grind⟩
    exact ⟨_, mem u l hu hl, by simp only; grind⟩
  · obtain ⟨u, l, hu, hl, rfl⟩ := all z (H.sub z hz)
    simp only
    rcases hl with rfl | rfl
    · grind
    · grind
  · have hj0 : j = 0 := by omega
    subst hj0
    rw [c0, e1, e2]
    have ht : ((1 - 0 : Nat) : Rat) = 1 := rfl
    rw [ht]
    refine ⟨by omega, fun z hz => ?_, fun z hz => ?_⟩
    · obtain ⟨u, l, hu, hl, rfl⟩ := all z (H.sub z hz)
      unfold W1
      simp only
      rcases hu with rfl | rfl <;> grind
    · obtain ⟨u, l, hu, hl, rfl⟩ := all z (H.sub z hz)
      unfold W2
      simp only
      rcases hu with rfl | rfl <;> grind
end FM
end
section
set_option Elab.async false
set_option linter.all false
set_option maxRecDepth 100000
/-! The cuts at a mark; what comes of another run. -/
namespace FM
theorem mom_any {e : Evn} (h : e.Ok) {g n : Nat} {S : Sh} {c sg : Int} (hg : g + 1 ≤ 17) (hn : n ≤ 42) (hsg : sg = 1 ∨ sg = -1) (sc : Sm 302 c) (Z : Szs n S) (P : Shp n (Mg g) (Xn e n) S.R) :
    CutPre S 0 (fr c) sg ∧ ∀ S', CutR S 0 (fr c) sg S' → Szs n S' ∧ Shp n (Mg (g + 1)) (Xn e n) S'.R ∧ ∃ A, CutRel (sdR 0 (c : Rat) sg) S.R A ∧ HulR A S'.R := by
  have b : Bq 311 (fr c) := Bq.fr sc
  exact cut_go (M := Mg g) (M' := Mg (g + 1)) (X := Xn e n) (c := c) (fun _ => hn) Z.pos (Z.sN.mono (by decide)) (fun p hp => ⟨(Z.sp p hp).1.mono (by decide), (Z.sp p hp).2.mono (by decide)⟩) (by have := Z.len; omega) (b.n.mono (by decide)) (b.d.mono (by decide)) b.pos hsg (fr_val c) (.inr ⟨rfl, Mg_succ g⟩) (Mg_pos _) (Mg_sm hg) (Xn_sm h (by omega)) P
theorem Evn.Ok.sc {e : Evn} (h : e.Ok) {i : Nat} (hi : i ≤ e.L) : Sm 302 (e.H i - e.sh) ∧ Sm 302 (e.H i + e.sh) := by
  have s1 : Sm 300 e.sh := (Sm.of (a := 14) 10000 (by have := h.s0; have := h.s1; omega)).mono (by decide)
  exact ⟨((h.hS i hi).sub s1).mono (by decide), ((h.hS i hi).add s1).mono (by decide)⟩
theorem cut_all {f : RP → Rat} {B A R' : List RP} (h2 : CutRel f B A) (h3 : HulR A R') {g : RP → Rat} {α β γ : Rat} (hg : Aff g α β γ) (h : ∀ z ∈ B, 0 ≤ g z) : ∀ z ∈ R', 0 ≤ g z := fun z hz => h2.lin hg h z (h3.sub z hz)
/-- nothing is left of points that are all on the wrong side -/
theorem cut_none {f : RP → Rat} {B A : List RP} {S' : Sh} (h2 : CutRel f B A) (h3 : HulR A S'.R) (h : ∀ z ∈ B, f z < 0) : S'.ps = [] := by
  false_or_by_contra
  rename_i ne
  obtain ⟨p, hp⟩ := List.exists_mem_of_ne_nil _ ne
  have hz := h3.sub _ (List.mem_map_of_mem hp : rp S'.N p ∈ S'.R)
  rcases h2.k1 _ hz with ⟨m, q⟩ | ⟨i, hi, hs, _⟩
  · have := h _ m; grind
  · have a1 := h _ (getD_mem hi)
    have a2 := h _ (getD_mem (Nat.mod_lt (i + 1) (show 0 < B.length by omega)))
    have := Rat.mul_pos (show 0 < -f (B.getD i (0, 0)) by grind) (show 0 < -f (B.getD ((i + 1) % B.length) (0, 0)) by grind)
    grind
theorem sdR0 (c : Rat) (sg : Int) (z : RP) : sdR 0 c sg z = (sg : Rat) * (z.1 - c) := by unfold sdR; rw [if_pos rfl]
theorem Inv.cut {e : Evn} (h : e.Ok) {g i n : Nat} {S : Sh} (I : Inv e g i n S) (hg : g + 2 ≤ 17) (hi : i + 1 ≤ e.L) (hn : n = e.cs (i + 1)) (nT : n ≤ e.T) :
    CutPre S 0 (fr (e.H (i + 1) - e.sh)) 1 ∧ ∀ S1, CutR S 0 (fr (e.H (i + 1) - e.sh)) 1 S1 → S1.ps ≠ [] ∧ CutPre S1 0 (fr (e.H (i + 1) + e.sh)) (-1) ∧ ∀ S2, CutR S1 0 (fr (e.H (i + 1) + e.sh)) (-1) S2 → Inv e (g + 2) (i + 1) n S2 := by
  have T42 := h.T42
  obtain ⟨sc1, sc2⟩ := h.sc (i := i + 1) hi
  have hr := h.hr (i + 1) hi
  rw [← hn] at hr
  have hr1 : -(e.sh : Rat) ≤ (e.H (i + 1) : Rat) - Fr e n := by unfold Fr; exact_mod_cast hr.1
  have hr2 : (e.H (i + 1) : Rat) - Fr e n ≤ (e.sh : Rat) := by unfold Fr; exact_mod_cast hr.2
  obtain ⟨a1, a2⟩ := mom_any h (by omega) (by omega) (.inl rfl) sc1 I.szs I.shp
  refine ⟨a1, fun S1 h1 => ?_⟩
  obtain ⟨z1, p1, A1, k1, q1⟩ := a2 S1 h1
  have sup1 : Sup S1.R (Fr e n, ff e n) := q1.supQ (k1.sup (sdR_aff0 _ _) I.shp.edge I.sup (by rw [sdR0]; push_cast; grind))
  obtain ⟨b1, b2⟩ := mom_any h (by omega) (by omega) (.inr rfl) sc2 z1 p1
  refine ⟨sup_ne sup1, b1, fun S2 h2 => ?_⟩
  obtain ⟨z2, p2, A2, k2, q2⟩ := b2 S2 h2
  have keep : ∀ {g : RP → Rat} {α β γ : Rat}, Aff g α β γ → (∀ z ∈ S.R, 0 ≤ g z) → ∀ z ∈ S2.R, 0 ≤ g z := fun hg hh => cut_all k2 q2 hg (cut_all k1 q1 hg hh)
  refine ⟨I.n1, z2, p2, q2.supQ (k2.sup (sdR_aff0 _ _) p1.edge sup1 (by rw [sdR0]; push_cast; grind)), keep (α := 0) (β := 1) (γ := -(360 * (e.cell : Rat))) ⟨fun z => by grind⟩ I.low, fun j hj => ?_⟩
  by_cases hj2 : j ≤ i
  · obtain ⟨w0, w1, w2⟩ := I.w j hj2
    exact ⟨w0, keep (W1_aff _ _ _ _ _) w1, keep (W2_aff _ _ _ _ _) w2⟩
  · have : j = i + 1 := by omega
    subst this
    have t0 : ((n - e.cs (i + 1) : Nat) : Rat) = 0 := by rw [← hn, Nat.sub_self]; rfl
    rw [t0]
    refine ⟨by omega, fun z hz => ?_, fun z hz => ?_⟩
    · have c2 := k2.nn (sdR_aff0 _ _) z (q2.sub z hz)
      rw [sdR0] at c2
      push_cast at c2
      unfold W1
      grind
    · have c1 := cut_all k2 q2 (sdR_aff0 ((e.H (i + 1) - e.sh : Int) : Rat) 1) (fun z hz => k1.nn (sdR_aff0 _ _) z (q1.sub z hz)) z hz
      rw [sdR0] at c1
      push_cast at c1
      unfold W2
      grind
/-! the strain -/
theorem Inv.str {e : Evn} {g i : Nat} {S : Sh} {Q : Rat} (I : Inv e g i (e.cs i) S) {j : Nat} (hj : j ≤ i) (ht : e.cs j < e.cs i) (hQ : 4 * (e.sh : Rat) + e.dr * (((e.cs i - e.cs j : Nat) : Rat) * (((e.cs i - e.cs j : Nat) : Rat) - 1)) ≤ ((e.cs i - e.cs j : Nat) : Rat) * Q) :
    ∀ z ∈ S.R, (0 ≤ Q - (ff e (e.cs i) - z.2)) ∧ (0 ≤ Q - (z.2 - ff e (e.cs i))) ∧ (0 ≤ Fr e (e.cs i) - z.1 + 2 * (e.sh : Rat)) ∧ 0 ≤ -(Fr e (e.cs i) - z.1) + 2 * (e.sh : Rat) := fun z hz => by
  obtain ⟨_, a1, a2⟩ := I.w j hj
  obtain ⟨_, b1, b2⟩ := I.w i (Nat.le_refl _)
  have a1 := a1 z hz
  have a2 := a2 z hz
  have b1 := b1 z hz
  have b2 := b2 z hz
  have t0 : ((e.cs i - e.cs i : Nat) : Rat) = 0 := by rw [Nat.sub_self]; rfl
  rw [t0] at b1 b2
  have tp : (0 : Rat) < ((e.cs i - e.cs j : Nat) : Rat) := by exact_mod_cast (by omega : 0 < e.cs i - e.cs j)
  generalize ((e.cs i - e.cs j : Nat) : Rat) = t at *
  unfold W1 at a1 b1
  unfold W2 at a2 b2
  have c1 := (sgn_sc (a := Q - (ff e (e.cs i) - z.2)) tp).mp (by grind)
  have c2 := (sgn_sc (a := Q - (z.2 - ff e (e.cs i))) tp).mp (by grind)
  exact ⟨c1, c2, by grind, by grind⟩
/-- k cells of a run that is too short -/
structure Lt (e : Evn) (g n0 k : Nat) (Q : Rat) (S : Sh) : Prop where
  szs : Szs (n0 + k) S
  shp : Shp (n0 + k) (Mg g) (Xn e (n0 + k)) S.R
  l2 : ∀ z ∈ S.R, 0 ≤ ff e (n0 + k) + Q + 2 * (e.dr : Rat) * (k : Rat) - z.2
  l1 : ∀ z ∈ S.R, 0 ≤ Fr e (n0 + k) + 2 * (e.sh : Rat) + (k : Rat) * Q + (e.dr : Rat) * ((k : Rat) * ((k : Rat) + 1)) - z.1
theorem Lt.led {e : Evn} (h : e.Ok) {g n0 k : Nat} {Q : Rat} {S : Sh} (I : Lt e g n0 k Q S) (hg : g ≤ 17) (n1 : 1 ≤ n0) (hn : n0 + k + 1 ≤ e.T) :
    LedPre (fr e.dr).1 (fr e.dr).2 e.cell S ∧ ∀ S', LedR (fr e.dr).1 (fr e.dr).2 e.cell S S' → Lt e g n0 (k + 1) Q S' := by
  have T42 := h.T42
  obtain ⟨a, b⟩ := led_any h hg (by omega) I.szs I.shp
  refine ⟨a, fun S' hS' => ?_⟩
  obtain ⟨z, p, C, A, h1, h2, h3⟩ := b S' hS'
  obtain ⟨f1, f2⟩ := h.f2 (n := n0 + k) (by omega) hn
  have d0 : (0 : Rat) ≤ (e.dr : Rat) := by exact_mod_cast h.d0
  have fs := Fr_succ e (n0 + k)
  refine ⟨z, p, led_all h1 h2 h3 (α := 0) (β := -1) (γ := ff e (n0 + k + 1) + Q + 2 * (e.dr : Rat) * ((k + 1 : Nat) : Rat)) ⟨fun z => by grind⟩ fun x hx => ?_, led_all h1 h2 h3 (α := -1) (β := 0) (γ := Fr e (n0 + k + 1) + 2 * (e.sh : Rat) + ((k + 1 : Nat) : Rat) * Q + (e.dr : Rat) * (((k + 1 : Nat) : Rat) * (((k + 1 : Nat) : Rat) + 1))) ⟨fun z => by grind⟩ fun x hx => ?_⟩
  · obtain ⟨z, hz, s, hs, rfl⟩ := mem_ledA.mp hx
    obtain ⟨s1, s2⟩ := led_s hs d0
    have := I.l2 z hz
    push_cast
    simp only [← Nat.add_assoc]
    grind
  · obtain ⟨z, hz, s, hs, rfl⟩ := mem_ledA.mp hx
    obtain ⟨s1, s2⟩ := led_s hs d0
    have := I.l2 z hz
    have := I.l1 z hz
    push_cast
    simp only [← Nat.add_assoc]
    rw [fs]
    grind
theorem Inv.lt {e : Evn} {g i : Nat} {S : Sh} {Q : Rat} (I : Inv e g i (e.cs i) S) (h : ∀ z ∈ S.R, (0 ≤ Q - (ff e (e.cs i) - z.2)) ∧ (0 ≤ Q - (z.2 - ff e (e.cs i))) ∧ (0 ≤ Fr e (e.cs i) - z.1 + 2 * (e.sh : Rat)) ∧ 0 ≤ -(Fr e (e.cs i) - z.1) + 2 * (e.sh : Rat)) : Lt e g (e.cs i) 0 Q S := by
  have k0 : ((0 : Nat) : Rat) = 0 := rfl
  refine ⟨I.szs, I.shp, fun z hz => ?_, fun z hz => ?_⟩
  · obtain ⟨a, b, c, d⟩ := h z hz
    rw [k0, Nat.add_zero]
    grind
  · obtain ⟨a, b, c, d⟩ := h z hz
    rw [k0, Nat.add_zero]
    grind
theorem Evn.Ok.far {e : Evn} (h : e.Ok) : ∀ d n : Nat, n + d ≤ e.T → Fr e n + (d : Rat) * (360 * (e.cell : Rat)) ≤ Fr e (n + d)
  | 0, n, _ => by rw [show ((0 : Nat) : Rat) = 0 from rfl, Nat.add_zero]; grind
  | d + 1, n, hd => by
    have ih := h.far d n (by omega)
    have := h.f1 (n := n + d + 1) (by omega) (by omega)
    rw [show n + (d + 1) = n + d + 1 by omega, Fr_succ]
    push_cast
    grind
/-- the end of a run that is too short -/
theorem Lt.cut {e : Evn} (h : e.Ok) {g i r : Nat} {Q K : Rat} {S : Sh} (I : Lt e g (e.cs i) r Q S) (hg : g + 1 ≤ 17) (hi : i + 1 ≤ e.L) (hT : e.cs (i + 1) ≤ e.T) (hr : e.cs i + r < e.cs (i + 1)) (q0 : 0 ≤ Q) (hK : (r : Rat) ≤ K)
    (sure : 4 * (e.sh : Rat) + K * Q + (e.dr : Rat) * (K * (K + 1)) < 360 * (e.cell : Rat)) : CutPre S 0 (fr (e.H (i + 1) - e.sh)) 1 ∧ ∀ S1, CutR S 0 (fr (e.H (i + 1) - e.sh)) 1 S1 → S1.ps = [] := by
  have T42 := h.T42
  obtain ⟨sc1, sc2⟩ := h.sc (i := i + 1) hi
  have hh := h.hr (i + 1) hi
  have hr1 : -(e.sh : Rat) ≤ (e.H (i + 1) : Rat) - Fr e (e.cs (i + 1)) := by unfold Fr; exact_mod_cast hh.1
  obtain ⟨a1, a2⟩ := mom_any h (by omega) (by omega) (.inl rfl) sc1 I.szs I.shp
  refine ⟨a1, fun S1 h1 => ?_⟩
  obtain ⟨z1, p1, A1, k1, q1⟩ := a2 S1 h1
  refine cut_none k1 q1 fun z hz => ?_
  have l1 := I.l1 z hz
  have f := h.far (e.cs (i + 1) - (e.cs i + r)) (e.cs i + r) (by omega)
  rw [show e.cs i + r + (e.cs (i + 1) - (e.cs i + r)) = e.cs (i + 1) by omega] at f
  have d1 : (1 : Rat) ≤ ((e.cs (i + 1) - (e.cs i + r) : Nat) : Rat) := by exact_mod_cast (by omega : 1 ≤ e.cs (i + 1) - (e.cs i + r))
  have r0 : (0 : Rat) ≤ (r : Rat) := by exact_mod_cast Nat.zero_le r
  have c0 : (0 : Rat) < (e.cell : Rat) := by exact_mod_cast (by have := h.c1; omega : 0 < e.cell)
  have dd : (0 : Rat) ≤ (e.dr : Rat) := by exact_mod_cast h.d0
  have t1 := nn_mul (show 0 ≤ ((e.cs (i + 1) - (e.cs i + r) : Nat) : Rat) - 1 by grind) (show 0 ≤ 360 * (e.cell : Rat) by grind)
  have t2 := nn_mul (show 0 ≤ K - (r : Rat) by grind) q0
  have t3 := nn_mul dd (nn_mul (show 0 ≤ K - (r : Rat) by grind) (show 0 ≤ K + (r : Rat) + 1 by grind))
  rw [sdR0]
  push_cast
  generalize ((e.cs (i + 1) - (e.cs i + r) : Nat) : Rat) = D at *
  generalize (r : Rat) = R at *
  grind
/-- k cells of a run that is too long; r are the true run's -/
structure Gt (e : Evn) (g n0 r k : Nat) (Q : Rat) (S : Sh) : Prop where
  szs : Szs (n0 + k) S
  shp : Shp (n0 + k) (Mg g) (Xn e (n0 + k)) S.R
  l2 : k ≤ r → ∀ z ∈ S.R, 0 ≤ z.2 - (ff e (n0 + k) - Q - 2 * (e.dr : Rat) * (k : Rat))
  l1 : k ≤ r → ∀ z ∈ S.R, 0 ≤ z.1 - (Fr e (n0 + k) - (2 * (e.sh : Rat) + (k : Rat) * Q + (e.dr : Rat) * ((k : Rat) * ((k : Rat) + 1))))
  l0 : r ≤ k → ∀ z ∈ S.R, 0 ≤ z.1 - (Fr e (n0 + r) - (2 * (e.sh : Rat) + (r : Rat) * Q + (e.dr : Rat) * ((r : Rat) * ((r : Rat) + 1))) + ((k : Rat) - (r : Rat)) * (360 * (e.cell : Rat)))
theorem Gt.led {e : Evn} (h : e.Ok) {g n0 r k : Nat} {Q : Rat} {S : Sh} (I : Gt e g n0 r k Q S) (hg : g ≤ 17) (n1 : 1 ≤ n0) (hn : n0 + r ≤ e.T) (hk : n0 + k + 1 ≤ 42) :
    LedPre (fr e.dr).1 (fr e.dr).2 e.cell S ∧ ∀ S', LedR (fr e.dr).1 (fr e.dr).2 e.cell S S' → Gt e g n0 r (k + 1) Q S' := by
  obtain ⟨a, b⟩ := led_any h hg (by omega) I.szs I.shp
  refine ⟨a, fun S' hS' => ?_⟩
  obtain ⟨z, p, C, A, h1, h2, h3⟩ := b S' hS'
  have d0 : (0 : Rat) ≤ (e.dr : Rat) := by exact_mod_cast h.d0
  have fs := Fr_succ e (n0 + k)
  have L1 : k + 1 ≤ r → ∀ z ∈ S'.R, 0 ≤ z.1 - (Fr e (n0 + k + 1) - (2 * (e.sh : Rat) + ((k + 1 : Nat) : Rat) * Q + (e.dr : Rat) * (((k + 1 : Nat) : Rat) * (((k + 1 : Nat) : Rat) + 1)))) := fun hkr => by
    obtain ⟨f1, f2⟩ := h.f2 (n := n0 + k) (by omega) (by omega)
    refine led_all h1 h2 h3 (α := 1) (β := 0) (γ := -(Fr e (n0 + k + 1) - (2 * (e.sh : Rat) + ((k + 1 : Nat) : Rat) * Q + (e.dr : Rat) * (((k + 1 : Nat) : Rat) * (((k + 1 : Nat) : Rat) + 1))))) ⟨fun z => by grind⟩ fun x hx => ?_
    obtain ⟨z, hz, s, hs, rfl⟩ := mem_ledA.mp hx
    obtain ⟨s1, s2⟩ := led_s hs d0
    have := I.l2 (by omega) z hz
    have := I.l1 (by omega) z hz
    push_cast
    rw [fs]
    grind
  refine ⟨z, p, fun hkr => ?_, fun hkr => L1 hkr, fun hkr => ?_⟩
  · obtain ⟨f1, f2⟩ := h.f2 (n := n0 + k) (by omega) (by omega)
    refine led_all h1 h2 h3 (α := 0) (β := 1) (γ := -(ff e (n0 + k + 1) - Q - 2 * (e.dr : Rat) * ((k + 1 : Nat) : Rat))) ⟨fun z => by grind⟩ fun x hx => ?_
    obtain ⟨z, hz, s, hs, rfl⟩ := mem_ledA.mp hx
    obtain ⟨s1, s2⟩ := led_s hs d0
    have := I.l2 (by omega) z hz
    push_cast
    grind
  · by_cases hc : r = k + 1
    · intro z hz
      have := L1 (by omega) z hz
      subst hc
      rw [show n0 + (k + 1) = n0 + k + 1 by omega]
      grind
    · have low := low_go (d := e.dr) (P := S.R) h2 h3
      push_cast at low
      have := led_all h1 h2 h3 (g := fun z => z.1 - z.2 - (Fr e (n0 + r) - (2 * (e.sh : Rat) + (r : Rat) * Q + (e.dr : Rat) * ((r : Rat) * ((r : Rat) + 1))) + ((k : Rat) - (r : Rat)) * (360 * (e.cell : Rat)))) (α := 1) (β := -1) (γ := -(Fr e (n0 + r) - (2 * (e.sh : Rat) + (r : Rat) * Q + (e.dr : Rat) * ((r : Rat) * ((r : Rat) + 1))) + ((k : Rat) - (r : Rat)) * (360 * (e.cell : Rat)))) ⟨fun z => by grind⟩ fun x hx => by
        obtain ⟨z, hz, s, hs, rfl⟩ := mem_ledA.mp hx
        have := I.l0 (by omega) z hz
        grind
      intro z hz
      have a := this z hz
      have b := low z hz
      push_cast
      grind
theorem Inv.gt {e : Evn} {g i r : Nat} {S : Sh} {Q : Rat} (hr : 1 ≤ r) (I : Inv e g i (e.cs i) S) (h : ∀ z ∈ S.R, (0 ≤ Q - (ff e (e.cs i) - z.2)) ∧ (0 ≤ Q - (z.2 - ff e (e.cs i))) ∧ (0 ≤ Fr e (e.cs i) - z.1 + 2 * (e.sh : Rat)) ∧ 0 ≤ -(Fr e (e.cs i) - z.1) + 2 * (e.sh : Rat)) : Gt e g (e.cs i) r 0 Q S := by
  have k0 : ((0 : Nat) : Rat) = 0 := rfl
  refine ⟨I.szs, I.shp, fun _ z hz => ?_, fun _ z hz => ?_, fun q => by omega⟩
  · obtain ⟨a, b, c, d⟩ := h z hz
    rw [k0, Nat.add_zero]
    grind
  · obtain ⟨a, b, c, d⟩ := h z hz
    rw [k0, Nat.add_zero]
    grind
/-- the end of a run that is too long -/
theorem Gt.cut {e : Evn} (h : e.Ok) {g i r k : Nat} {Q K : Rat} {S : Sh} (I : Gt e g (e.cs i) r k Q S) (hg : g + 2 ≤ 17) (hi : i + 1 ≤ e.L) (hr : e.cs i + r = e.cs (i + 1)) (hk : r < k) (h42 : e.cs i + k ≤ 42) (q0 : 0 ≤ Q) (hK : (r : Rat) ≤ K)
    (sure : 4 * (e.sh : Rat) + K * Q + (e.dr : Rat) * (K * (K + 1)) < 360 * (e.cell : Rat)) : CutPre S 0 (fr (e.H (i + 1) - e.sh)) 1 ∧ ∀ S1, CutR S 0 (fr (e.H (i + 1) - e.sh)) 1 S1 → CutPre S1 0 (fr (e.H (i + 1) + e.sh)) (-1) ∧ ∀ S2, CutR S1 0 (fr (e.H (i + 1) + e.sh)) (-1) S2 → S2.ps = [] := by
  obtain ⟨sc1, sc2⟩ := h.sc (i := i + 1) hi
  have hh := h.hr (i + 1) hi
  have hr2 : (e.H (i + 1) : Rat) - Fr e (e.cs (i + 1)) ≤ (e.sh : Rat) := by unfold Fr; exact_mod_cast hh.2
  obtain ⟨a1, a2⟩ := mom_any h (by omega) (by omega) (.inl rfl) sc1 I.szs I.shp
  refine ⟨a1, fun S1 h1 => ?_⟩
  obtain ⟨z1, p1, A1, k1, q1⟩ := a2 S1 h1
  obtain ⟨b1, b2⟩ := mom_any h (by omega) (by omega) (.inr rfl) sc2 z1 p1
  refine ⟨b1, fun S2 h2 => ?_⟩
  obtain ⟨z2, p2, A2, k2, q2⟩ := b2 S2 h2
  refine cut_none k2 q2 fun z hz => ?_
  have l0 := cut_all k1 q1 (α := 1) (β := 0) (γ := -(Fr e (e.cs i + r) - (2 * (e.sh : Rat) + (r : Rat) * Q + (e.dr : Rat) * ((r : Rat) * ((r : Rat) + 1))) + ((k : Rat) - (r : Rat)) * (360 * (e.cell : Rat)))) ⟨fun z => by grind⟩ (I.l0 (by omega)) z hz
  rw [hr] at l0
  have d1 : (1 : Rat) ≤ (k : Rat) - (r : Rat) := by
    have : ((r + 1 : Nat) : Rat) ≤ (k : Rat) := by exact_mod_cast hk
    push_cast at this
    grind
  have r0 : (0 : Rat) ≤ (r : Rat) := by exact_mod_cast Nat.zero_le r
  have c0 : (0 : Rat) < (e.cell : Rat) := by exact_mod_cast (by have := h.c1; omega : 0 < e.cell)
  have dd : (0 : Rat) ≤ (e.dr : Rat) := by exact_mod_cast h.d0
  have t1 := nn_mul (show 0 ≤ (k : Rat) - (r : Rat) - 1 by grind) (show 0 ≤ 360 * (e.cell : Rat) by grind)
  have t2 := nn_mul (show 0 ≤ K - (r : Rat) by grind) q0
  have t3 := nn_mul dd (nn_mul (show 0 ≤ K - (r : Rat) by grind) (show 0 ≤ K + (r : Rat) + 1 by grind))
  rw [sdR0]
  push_cast
  generalize (k : Rat) = D at *
  generalize (r : Rat) = R at *
  grind
end FM
end
section
set_option Elab.async false
set_option linter.all false
set_option maxRecDepth 100000
/-! What is put in order is still near. -/
namespace FM
theorem cnt_take {p : Int → Bool} {xs : List Int} {k : Nat} (hk : k ≤ xs.length) (h : ∀ j (hj : j < xs.length), j < k → p xs[j] = true) : k ≤ xs.countP p := by
  have e : xs.countP p = (xs.take k).countP p + (xs.drop k).countP p := by
    conv => lhs; rw [← List.take_append_drop k xs]
    exact List.countP_append
  have : (xs.take k).countP p = (xs.take k).length := by
    rw [List.countP_eq_length]
    intro a ha
    obtain ⟨j, hj, rfl⟩ := List.mem_iff_getElem.mp ha
    rw [List.length_take] at hj
    rw [List.getElem_take]
    exact h j (by omega) (by omega)
  rw [e, this, List.length_take]
  omega
theorem cnt_drop {p : Int → Bool} {xs : List Int} {k : Nat} (h : ∀ j (hj : j < xs.length), k ≤ j → p xs[j] = false) : xs.countP p ≤ k := by
  have e : xs.countP p = (xs.take k).countP p + (xs.drop k).countP p := by
    conv => lhs; rw [← List.take_append_drop k xs]
    exact List.countP_append
  have h2 : (xs.drop k).countP p = 0 := by
    rw [List.countP_eq_zero]
    intro a ha
    obtain ⟨j, hj, rfl⟩ := List.mem_iff_getElem.mp ha
    rw [List.length_drop] at hj
    rw [List.getElem_drop, h (k + j) (by omega) (by omega)]
    decide
  have h1 : (xs.take k).countP p ≤ (xs.take k).length := List.countP_le_length
  rw [List.length_take] at h1
  omega
theorem near {xs ys : List Int} {F : Nat → Int} {s : Int} (hp : ys.Perm xs) (hs : ys.Pairwise (· ≤ ·)) (mono : ∀ i j, i ≤ j → j < xs.length → F i ≤ F j) (hx : ∀ i (h : i < xs.length), F i - s ≤ xs[i] ∧ xs[i] ≤ F i + s) : ∀ i (h : i < ys.length), F i - s ≤ ys[i] ∧ ys[i] ≤ F i + s := by
  intro i hi
  have hl := hp.length_eq
  have srt : ∀ j k (hj : j < ys.length) (hk : k < ys.length), j ≤ k → ys[j] ≤ ys[k] := fun j k hj hk h => by
    by_cases q : j = k
    · subst q; exact Int.le_refl _
    · exact (List.pairwise_iff_getElem.mp hs) j k hj hk (by omega)
  constructor
  · false_or_by_contra
    have c1 := cnt_take (p := fun x => decide (x < F i - s)) (xs := ys) (k := i + 1) (by omega) fun j hj hk => by
      have := srt j i hj hi (by omega)
      apply decide_eq_true; omega
    have c2 := cnt_drop (p := fun x => decide (x < F i - s)) (xs := xs) (k := i) fun j hj hk => by
      have := (hx j hj).1
      have := mono i j hk hj
      apply decide_eq_false; omega
    rw [hp.countP_eq] at c1
    omega
  · false_or_by_contra
    have c1 := cnt_take (p := fun x => decide (x ≤ F i + s)) (xs := xs) (k := i + 1) (by omega) fun j hj hk => by
      have := (hx j hj).2
      have := mono j i (by omega) (by omega)
      apply decide_eq_true; omega
    have c2 := cnt_drop (p := fun x => decide (x ≤ F i + s)) (xs := ys) (k := i) fun j hj hk => by
      have := srt i j hi hj hk
      apply decide_eq_false; omega
    rw [hp.countP_eq] at c2
    omega
end FM
end
section
set_option Elab.async false
set_option linter.all false
set_option maxRecDepth 100000
set_option pp.maxSteps 300
/-! From the drawn data to the true telling. -/
namespace FL
open PySem PySem.Spec PyProof.Rows L2 FM
/-! ### the strain of a led row -/
theorem psum_le {ns : List Int} (h : ∀ x ∈ ns, 0 ≤ x) : ∀ {i j : Nat}, i ≤ j → j ≤ ns.length → psum 0 ns i ≤ psum 0 ns j := fun {i j} hij hj => by
  induction j with
  | zero => have : i = 0 := by omega
            rw [this]; exact Int.le_refl _
  | succ j ih =>
    by_cases q : i ≤ j
    · have := ih q (by omega)
      rw [psum_succ (by omega)]
      have := h ns[j] (List.getElem_mem _)
      omega
    · have : i = j + 1 := by omega
      rw [this]; exact Int.le_refl _
theorem psum_rep {k : Int} {ns : List Int} {p : Nat} (h : ns.take p = List.replicate p k) (hp : p ≤ ns.length) : psum 0 ns p = p * k := by
  unfold psum
  rw [h]
  clear h hp
  induction p with
  | zero => simp
  | succ p ih => rw [List.replicate_succ, List.sum_cons]; push_cast; grind
theorem strain_ex {b : Pm} (hb : b.Ok) {q : Int × Int} (hq : PullOk b q) {ns : List Int} (hr : ∀ x ∈ ns, b.lo ≤ x ∧ x ≤ b.K) (lead : ns.take b.p.toNat = List.replicate b.p.toNat b.K) (hs : psum 0 ns ns.length ≤ 1000) {i : Nat} (hi : b.p.toNat ≤ i) (hl : i ≤ ns.length) :
    ∃ j, j < i ∧ psum 0 ns j < psum 0 ns i ∧ lef (ph b.dr b.sh (psum 0 ns i - psum 0 ns j)) q := by
  have p1 := hb.p1
  have l1 := hb.l1
  have lK := hb.lK
  have n0 : ∀ x ∈ ns, 0 ≤ x := fun x hx => by have := (hr x hx).1; omega
  have mono : ∀ {i j : Nat}, i ≤ j → j ≤ ns.length → psum 0 ns i ≤ psum 0 ns j := fun h1 h2 => psum_le n0 h1 h2
  have top : ∀ {j : Nat}, j ≤ ns.length → psum 0 ns j ≤ 1000 := fun hj => by have := mono hj (Nat.le_refl _); omega
  have z0 : psum 0 ns 0 = 0 := by simp [psum]
  have ep : psum 0 ns b.p.toNat = b.p * b.K := by
    rw [psum_rep lead (by omega)]
    congr 1
    omega
  by_cases hd : b.dr = 0 ∧ b.sh ≠ 0
  · refine ⟨0, by omega, ?_, ?_⟩
    · have := mono hi hl
      have : 1 * 1 ≤ b.p * b.K := Int.mul_le_mul p1 (by omega) (by omega) (by omega)
      omega
    · have hno := hq.no hd.1 hd.2
      have m := mono hi hl
      have pk : 1 * 1 ≤ b.p * b.K := Int.mul_le_mul p1 (by omega) (by omega) (by omega)
      have t1 := top hl
      have b1 := hb.bp (t := psum 0 ns i - psum 0 ns 0) (by omega) (by omega)
      have b2 := hb.bp (t := b.p * b.K) (by omega) (by omega)
      refine lef_trans b1.pos b2.pos hq.bq.pos ((ph_lef (by omega) (by omega)).mpr ?_) hno
      rw [hd.1, Int.zero_mul, Int.zero_sub]
      exact Int.mul_nonneg_of_nonpos_of_nonpos (by omega) (by have := hb.s1; omega)
  · obtain ⟨T, hT, hT2⟩ := Trn.ex hb (fun e => by
      false_or_by_contra
      rename_i z
      exact hd ⟨e, z⟩)
    have key : ∀ d, d ≤ i → ∃ dv, IV b T q (psum 0 ns i - psum 0 ns (i - d)) dv ∧ (1 ≤ d → dv ≠ none) ∧ ∀ v, dv = some v → ∃ j, j < i ∧ psum 0 ns j < psum 0 ns i ∧ v = ph b.dr b.sh (psum 0 ns i - psum 0 ns j) := fun d => by
      induction d with
      | zero => exact fun _ => ⟨none, by show psum 0 ns i - psum 0 ns (i - 0) = 0; rw [Nat.sub_zero]; omega, fun z => absurd z (by decide), fun v e => by cases e⟩
      | succ d ih =>
        intro hdi
        obtain ⟨dv, iv, _, hv⟩ := ih (by omega)
        have hx : i - (d + 1) < ns.length := by omega
        have es : psum 0 ns (i - d) = psum 0 ns (i - (d + 1)) + ns[i - (d + 1)] := by
          rw [← psum_succ hx]
          congr 1
          omega
        have hr' := hr ns[i - (d + 1)] (List.getElem_mem _)
        have mm := mono (i := i - d) (j := i) (by omega) hl
        have t1 := top hl
        have z1 := mono (i := 0) (j := i - (d + 1)) (by omega) (by omega)
        have st := IV_step hb hT hq iv hr'.1 hr'.2 (by omega) (by omega)
        rw [show psum 0 ns i - psum 0 ns (i - d) + ns[i - (d + 1)] = psum 0 ns i - psum 0 ns (i - (d + 1)) by omega] at st
        refine ⟨_, st, (fun _ => Option.some_ne_none _), fun v e => ?_⟩
        obtain rfl := Option.some.inj e
        cases dv with
        | none => exact ⟨i - (d + 1), by omega, by omega, rfl⟩
        | some v0 =>
          unfold lsO
          dsimp only
          split
          · exact ⟨i - (d + 1), by omega, by omega, rfl⟩
          · exact hv v0 rfl
    obtain ⟨dv, iv, hne, hv⟩ := key i (Nat.le_refl _)
    cases dv with
    | none => exact absurd rfl (hne (by omega))
    | some v =>
      obtain ⟨j, j1, j2, j3⟩ := hv v rfl
      have := mono hi hl
      have t1 := top hl
      rw [Nat.sub_self] at iv
      have e := IV_end hb hT hq (c := psum 0 ns i - b.p * b.K) (by omega) (by rw [show psum 0 ns i - b.p * b.K + b.p * b.K = psum 0 ns i - psum 0 ns 0 by omega]; exact iv) (by omega)
      exact ⟨j, j1, j2, by rw [← j3]; exact e⟩
/-- the pull as a rational, in 1 by 360 -/
def qR (q : Int × Int) : Rat := 360 * (q.1 : Rat) / (q.2 : Rat)
theorem qR_nn {q : Int × Int} (h : 0 < q.2) (h1 : 0 ≤ q.1) : 0 ≤ qR q := by
  have p := cpos h
  have n : (0 : Rat) ≤ (q.1 : Rat) := by exact_mod_cast h1
  unfold qR
  have := Rat.mul_nonneg (Rat.mul_nonneg (show (0 : Rat) ≤ 360 by decide) n) (Rat.le_of_lt (Rat.inv_pos.mpr p))
  rw [Rat.div_def]
  exact this
theorem lef_R {b : Pm} {q : Int × Int} {t : Nat} (hq : 0 < q.2) (ht : 1 ≤ t) (h : lef (ph b.dr b.sh (t : Int)) q) : 4 * (b.sh : Rat) + b.dr * ((t : Rat) * ((t : Rat) - 1)) ≤ (t : Rat) * qR q := by
  have v := (lef_V (ph_V (dr := b.dr) (sh := b.sh) (t := t) (by omega)) (⟨hq, hq, rfl⟩ : V q q.1 q.2)).mp h
  have v' : (((4 * b.sh + b.dr * ((t : Int) * ((t : Int) - 1))) * q.2 : Int) : Rat) ≤ ((q.1 * (360 * (t : Int)) : Int) : Rat) := by exact_mod_cast v
  push_cast at v'
  have p := cpos hq
  unfold qR
  rw [show (t : Rat) * (360 * (q.1 : Rat) / (q.2 : Rat)) = ((q.1 : Rat) * (360 * (t : Rat))) / (q.2 : Rat) by grind]
  false_or_by_contra
  rename_i z
  have z2 : ((q.1 : Rat) * (360 * (t : Rat))) / (q.2 : Rat) < 4 * (b.sh : Rat) + b.dr * ((t : Rat) * ((t : Rat) - 1)) := by grind
  rw [Rat.div_lt_iff p] at z2
  grind
theorem sure_R {b : Pm} {q : Int × Int} (hq : 0 < q.2) (h : Sure b q) : 4 * (b.sh : Rat) + ((b.K - 1 : Int) : Rat) * qR q + (b.dr : Rat) * (((b.K - 1 : Int) : Rat) * (((b.K - 1 : Int) : Rat) + 1)) < 360 * (b.cell : Rat) := by
  unfold Sure at h
  have h' : (((4 * b.sh + b.dr * ((b.K - 1) * (b.K - 1 + 1))) * q.2 + 360 * ((b.K - 1) * q.1) : Int) : Rat) < ((360 * (b.cell * q.2) : Int) : Rat) := by exact_mod_cast h
  have p := cpos hq
  unfold qR
  generalize hk : ((b.K - 1 : Int) : Rat) = k at *
  have hk' : (b.K : Rat) - 1 = k := by rw [← hk]; push_cast; rfl
  push_cast at h'
  rw [hk'] at h'
  have e : (360 * (q.1 : Rat) / (q.2 : Rat)) * (q.2 : Rat) = 360 * (q.1 : Rat) := Rat.div_mul_cancel (by grind)
  generalize 360 * (q.1 : Rat) / (q.2 : Rat) = r at *
  clear h hk hk'
  generalize (q.2 : Rat) = q2 at *
  generalize (q.1 : Rat) = q1 at *
  generalize (b.dr : Rat) * (k * (k + 1)) = D at *
  generalize (b.cell : Rat) = ce at *
  generalize (b.sh : Rat) = sh at *
  false_or_by_contra
  rename_i z
  have := Rat.mul_nonneg (show 0 ≤ 4 * sh + k * r + D - 360 * ce by grind) (Rat.le_of_lt p)
  have e2 : k * r * q2 = 360 * (k * q1) := by
    have : k * (r * q2) = k * (360 * q1) := by rw [e]
    grind
  have e3 : (4 * sh + k * r + D - 360 * ce) * q2 = (4 * sh + D) * q2 + k * r * q2 - 360 * (ce * q2) := by grind
  rw [e3, e2] at this
  grind
end FL
end
section
set_option Elab.async false
set_option linter.all false
set_option maxRecDepth 100000
set_option pp.maxSteps 300
/-! The drawn data make a true telling; what behind does there. -/
namespace FL
open PySem PySem.Spec PyProof.Rows L2 FM
structure Dat (b : Pm) (m : Int) (ls ns shs ys : List Int) : Prop where
  hb : b.Ok
  ride : Ride b.cell b.dr ls
  m0 : m = 0 ∨ m = 1260 ∨ m = -1080
  run : ∀ x ∈ ns, b.lo ≤ x ∧ x ≤ b.K
  lead : ns.take b.p.toNat = List.replicate b.p.toNat b.K
  pl : b.p.toNat ≤ ns.length
  n7 : ns.length ≤ 7
  K6 : b.K ≤ 6
  sum : psum 0 ns ns.length = ls.length
  shl : shs.length = ns.length + 1
  shb : ∀ x ∈ shs, -b.sh ≤ x ∧ x ≤ b.sh
  perm : ys.Perm (heardL m ls ns shs)
  srt : ys.Pairwise (· ≤ ·)
def big : Int := 2 ^ 399
def evn (b : Pm) (m : Int) (ls ns ys : List Int) : Evn := { cell := b.cell, dr := b.dr, sh := b.sh, X0 := big, T := ls.length, L := ns.length, F := psum m ls, cs := fun i => (psum 0 ns i).toNat, H := fun i => ys.getD i 0 }
section
variable {b : Pm} {m : Int} {ls ns shs ys : List Int}
theorem Dat.n0 (d : Dat b m ls ns shs ys) : ∀ x ∈ ns, 0 ≤ x := fun x hx => by have := (d.run x hx).1; have := d.hb.l1; omega
theorem psum_ub {k : Int} : ∀ {ns : List Int} {i : Nat}, (∀ x ∈ ns, x ≤ k) → i ≤ ns.length → psum 0 ns i ≤ i * k := fun {ns i} h hi => by
  induction i with
  | zero => simp [psum]
  | succ i ih =>
    rw [psum_succ (by omega)]
    have := ih (by omega)
    have := h ns[i] (List.getElem_mem _)
    have e : ((i + 1 : Nat) : Int) * k = i * k + k := by push_cast; grind
    omega
theorem Dat.T42 (d : Dat b m ls ns shs ys) : ls.length ≤ 42 := by
  have h := psum_ub (k := b.K) (ns := ns) (i := ns.length) (fun x hx => (d.run x hx).2) (Nat.le_refl _)
  have : (ns.length : Int) * b.K ≤ 7 * 6 := Int.mul_le_mul (by have := d.n7; omega) d.K6 (by have := d.hb.l1; have := d.hb.lK; omega) (by omega)
  have := d.sum
  omega
theorem Dat.cell_sm (d : Dat b m ls ns shs ys) : ∀ l ∈ ls, 360 * b.cell ≤ l ∧ l ≤ 360 * (b.cell + 3) + 420000 := fun l hl => by
  obtain ⟨i, hi, rfl⟩ := List.mem_iff_getElem.mp hl
  refine ⟨d.ride.ge _ hl, ?_⟩
  have := d.ride.le d.hb.d1 i hi
  have : b.dr * (i : Int) ≤ 10000 * 42 := Int.mul_le_mul d.hb.d2 (by have := d.T42; omega) (by omega) (by omega)
  omega
theorem Dat.ps (d : Dat b m ls ns shs ys) : ∀ {j : Nat}, j ≤ ls.length → m ≤ psum m ls j ∧ psum m ls j ≤ m + j * (360 * (b.cell + 3) + 420000) := fun {j} hj => by
  induction j with
  | zero => simp [psum]
  | succ j ih =>
    have := ih (by omega)
    rw [psum_succ (by omega)]
    have := d.cell_sm ls[j] (List.getElem_mem _)
    have c1 := d.hb.c1
    have e : ((j + 1 : Nat) : Int) * (360 * (b.cell + 3) + 420000) = j * (360 * (b.cell + 3) + 420000) + (360 * (b.cell + 3) + 420000) := by push_cast; grind
    omega
theorem Dat.lim (d : Dat b m ls ns shs ys) : ∃ W : Int, Sm 250 W ∧ 0 ≤ W ∧ 360 * b.cell ≤ W ∧ (∀ l ∈ ls, 0 ≤ l ∧ l ≤ W) ∧ ∀ j, j ≤ ls.length → -W ≤ psum m ls j ∧ psum m ls j ≤ W := by
  have c1 := d.hb.c1
  refine ⟨1260 + 42 * (360 * (b.cell + 3) + 420000), ?_, by omega, by omega, fun l hl => by have := d.cell_sm l hl; omega, fun j hj => ?_⟩
  · have a : Sm 202 (b.cell + 3) := (d.hb.c2.add ((Sm.of (a := 2) (x := 3) 3 (by decide)).mono (by decide))).mono (by decide)
    have c : Sm 220 (360 * (b.cell + 3) + 420000) := ((((Sm.of (a := 9) (x := 360) 360 (by decide)).mul a).mono (by decide : 9 + 202 ≤ 211)).add ((Sm.of (a := 20) (x := 420000) 420000 (by decide)).mono (by decide))).mono (by decide)
    have e : Sm 230 (42 * (360 * (b.cell + 3) + 420000)) := ((Sm.of (a := 6) (x := 42) 42 (by decide)).mul c).mono (by decide)
    exact (((Sm.of (a := 11) (x := 1260) 1260 (by decide)).mono (by decide : 11 ≤ 230)).add e).mono (by decide)
  · have h := d.ps hj
    have : (j : Int) * (360 * (b.cell + 3) + 420000) ≤ 42 * (360 * (b.cell + 3) + 420000) := Int.mul_le_mul_of_nonneg_right (by have := d.T42; omega) (by omega)
    rcases d.m0 with rfl | rfl | rfl <;> omega
theorem sm_abs {k : Nat} {x W : Int} (h : Sm k W) (h0 : 0 ≤ W) (h1 : -W ≤ x) (h2 : x ≤ W) : Sm k x := h.le (by omega)
theorem Dat.cs0 (d : Dat b m ls ns shs ys) {i : Nat} (hi : i ≤ ns.length) : 0 ≤ psum 0 ns i ∧ psum 0 ns i ≤ ls.length := by
  have h1 := psum_le d.n0 (Nat.zero_le i) hi
  have h2 := psum_le d.n0 hi (Nat.le_refl _)
  have : psum 0 ns 0 = 0 := by simp [psum]
  have := d.sum
  omega
theorem Dat.Fmono (d : Dat b m ls ns shs ys) {i j : Nat} (hij : i ≤ j) (hj : j ≤ ls.length) : psum m ls i ≤ psum m ls j := by
  induction j with
  | zero => have : i = 0 := by omega
            rw [this]; exact Int.le_refl _
  | succ j ih =>
    by_cases q : i ≤ j
    · have := ih q (by omega)
      rw [psum_succ (by omega)]
      have := d.cell_sm ls[j] (List.getElem_mem _)
      have := d.hb.c1
      omega
    · have : i = j + 1 := by omega
      rw [this]; exact Int.le_refl _
theorem Dat.hr (d : Dat b m ls ns shs ys) : ys.length = ns.length + 1 ∧ ∀ i, i ≤ ns.length → -b.sh ≤ ys.getD i 0 - psum m ls (psum 0 ns i).toNat ∧ ys.getD i 0 - psum m ls (psum 0 ns i).toNat ≤ b.sh := by
  have hl : (heardL m ls ns shs).length = ns.length + 1 := by simp [heardL]
  have hy : ys.length = ns.length + 1 := by rw [d.perm.length_eq, hl]
  refine ⟨hy, fun i hi => ?_⟩
  have := near (F := fun i => psum m ls (psum 0 ns i).toNat) (s := b.sh) d.perm d.srt (fun i j hij hj => ?_) (fun i h => ?_) i (by omega)
  · rw [List.getD_eq_getElem?_getD, List.getElem?_eq_getElem (by omega)]
    show -b.sh ≤ ys[i] - _ ∧ ys[i] - _ ≤ b.sh
    omega
  · rw [hl] at hj
    have h1 := d.cs0 (i := i) (by omega)
    have h2 := d.cs0 (i := j) (by omega)
    have h3 := psum_le d.n0 hij (by omega)
    exact d.Fmono (by omega) (by omega)
  · rw [hl] at h
    have e : (heardL m ls ns shs)[i]'(by omega) = psum m ls (psum 0 ns i).toNat + shs.getD i 0 := by simp [heardL]
    rw [e]
    have : shs.getD i 0 ∈ shs := by
      rw [List.getD_eq_getElem?_getD, List.getElem?_eq_getElem (by have := d.shl; omega)]
      exact List.getElem_mem _
    have := d.shb _ this
    show psum m ls (psum 0 ns i).toNat - b.sh ≤ _ ∧ _ ≤ psum m ls (psum 0 ns i).toNat + b.sh
    omega
theorem Dat.ok (d : Dat b m ls ns shs ys) : (evn b m ls ns ys).Ok := by
  obtain ⟨W, sW, w0, wc, wl, wp⟩ := d.lim
  have hb := d.hb
  have hsz : ∀ i, i ≤ ns.length → -(W + 10000) ≤ ys.getD i 0 ∧ ys.getD i 0 ≤ W + 10000 := fun i hi => by
    have h1 := d.hr.2 i hi
    have h2 := d.cs0 hi
    have h3 := wp (psum 0 ns i).toNat (by omega)
    have := hb.s2
    omega
  have sW2 : Sm 300 (W + 10000) := ((sW.mono (by decide : 250 ≤ 260)).add ((Sm.of (a := 14) (x := 10000) 10000 (by decide)).mono (by decide : 14 ≤ 260))).mono (by decide)
  have p1 := hb.p1
  have L1 : 1 ≤ ns.length := by have := d.pl; omega
  have W400 : W < 2 ^ 250 := by
    unfold Sm at sW
    have : ((W.natAbs : Nat) : Int) < ((2 ^ 250 : Nat) : Int) := by exact_mod_cast sW
    have e : ((2 ^ 250 : Nat) : Int) = 2 ^ 250 := by decide +kernel
    rw [e] at this
    omega
  have bigW : 10 * W + 10 * (2 ^ 250) ≤ big := by
    have : (20 : Int) * 2 ^ 250 ≤ big := by decide +kernel
    omega
  have b250 : (1000000 : Int) ≤ 2 ^ 250 := by decide +kernel
  refine { c1 := hb.c1, cS := hb.c2.mono (by decide), d0 := hb.d1, d1 := hb.d2, s0 := hb.s1, s1 := hb.s2, ge := fun c hc => ?_, up := fun c hc => ?_, c0 := ?_, cm := fun i hi => ?_, cT := ?_, T42 := d.T42, L7 := d.n7, L1 := L1, hr := d.hr.2, hS := fun i hi => sm_abs sW2 (by omega) (hsz i hi).1 (hsz i hi).2, bX := ?_, sX := ?_, dX := ?_ }
  · have hc : c < ls.length := hc
    show 360 * b.cell ≤ psum m ls (c + 1) - psum m ls c
    rw [psum_succ hc]
    have := d.ride.ge ls[c] (List.getElem_mem _)
    omega
  · have hc : c + 1 < ls.length := hc
    show (psum m ls (c + 2) - psum m ls (c + 1)) - (psum m ls (c + 1) - psum m ls c) ≤ b.dr ∧ (psum m ls (c + 1) - psum m ls c) - (psum m ls (c + 2) - psum m ls (c + 1)) ≤ b.dr
    rw [show c + 2 = c + 1 + 1 from rfl, psum_succ hc, psum_succ (by omega)]
    have := d.ride.up c hc
    omega
  · show (psum 0 ns 0).toNat = 0
    simp [psum]
  · have hi : i < ns.length := hi
    show (psum 0 ns i).toNat < (psum 0 ns (i + 1)).toNat
    rw [psum_succ hi]
    have := d.run ns[i] (List.getElem_mem _)
    have := hb.l1
    have := (d.cs0 (i := i) (by omega)).1
    omega
  · show (psum 0 ns ns.length).toNat = ls.length
    have := d.sum
    omega
  · have h0 := hsz 0 (by omega)
    have h1 := hsz 1 (by omega)
    have s1 := hb.s1
    have s2 := hb.s2
    have c1 := hb.c1
    show ∀ u ∈ [ys.getD 0 0 - b.sh, ys.getD 0 0 + b.sh], ∀ v ∈ [360 * b.cell, ys.getD 1 0 - ys.getD 0 0 + b.sh * 2], (-big ≤ u + v ∧ u + v ≤ big) ∧ -big ≤ v ∧ v ≤ big
    generalize ys.getD 0 0 = y0 at *
    generalize ys.getD 1 0 = y1 at *
    generalize big = B at *
    generalize (2 : Int) ^ 250 = P at *
    intro u hu v hv
    have hu : u = y0 - b.sh ∨ u = y0 + b.sh := by simpa using hu
    have hv : v = 360 * b.cell ∨ v = y1 - y0 + b.sh * 2 := by simpa using hv
    rcases hu with rfl | rfl <;> rcases hv with rfl | rfl <;> omega
  · show Sm 400 big
    unfold Sm
    decide +kernel
  · show b.dr ≤ big
    have := hb.d2
    omega
end
end FL
end
section
set_option Elab.async false
set_option linter.all false
set_option maxRecDepth 100000
set_option pp.maxSteps 300
/-! behind, at the true run and at another. -/
namespace FL
open PySem PySem.Spec PyProof.Rows L2 FM
/-- the shape at mark i of the true row -/
def Iv (e : Evn) (i : Nat) : Option Sh → Prop
  | none => i = 0
  | some S => 1 ≤ i ∧ Inv e (2 * i) i (e.cs i) S
section
variable {b : Pm} {m : Int} {ls ns shs ys : List Int}
theorem Dat.csE (d : Dat b m ls ns shs ys) {i : Nat} (hi : i < ns.length) : (evn b m ls ns ys).cs (i + 1) = (evn b m ls ns ys).cs i + ns[i].toNat ∧ 1 ≤ ns[i].toNat ∧ (ns[i].toNat : Int) = ns[i] := by
  show (psum 0 ns (i + 1)).toNat = (psum 0 ns i).toNat + ns[i].toNat ∧ _
  rw [psum_succ hi]
  have := d.run ns[i] (List.getElem_mem _)
  have := d.hb.l1
  have := (d.cs0 (i := i) (by omega)).1
  omega
theorem Dat.csT (d : Dat b m ls ns shs ys) {i : Nat} (hi : i ≤ ns.length) : (evn b m ls ns ys).cs i ≤ (evn b m ls ns ys).T := by
  have := d.cs0 hi
  show (psum 0 ns i).toNat ≤ ls.length
  omega
theorem beh_true (d : Dat b m ls ns shs ys) {i : Nat} (hi : i < ns.length) {o : Option Sh} (iv : Iv (evn b m ls ns ys) i o) :
    Behind b (ys.getD 0 0) (ys.getD (i + 1) 0) ns[i].toNat o fun S => S.ps ≠ [] ∧ Iv (evn b m ls ns ys) (i + 1) (some S) := by
  have ok := d.ok
  obtain ⟨c1, c2, c3⟩ := d.csE hi
  have cT := d.csT (i := i + 1) hi
  have n7 := d.n7
  have K6 := d.K6
  have rr := d.run ns[i] (List.getElem_mem _)
  generalize he : evn b m ls ns ys = e at *
  have eH : ∀ j, e.H j = ys.getD j 0 := fun j => by rw [← he]; rfl
  have eC : e.cell = b.cell := by rw [← he]; rfl
  have eD : e.dr = b.dr := by rw [← he]; rfl
  have eS : e.sh = b.sh := by rw [← he]; rfl
  have eL : e.L = ns.length := by rw [← he]; rfl
  have sH := ok.hS
  rw [← eH, ← eH]
  refine ⟨sH 0 (by omega), sH (i + 1) (by omega), c2, by omega, fun k o' => (k = 0 ∧ o' = o) ∨ (1 ≤ k ∧ ∃ S, o' = some S ∧ Inv e (2 * i) i (e.cs i + k) S), .inl ⟨rfl, rfl⟩, fun k o' hk hI => ?_, fun S hI => ?_⟩
  · have stp : ∀ S0, o' = some S0 → Inv e (2 * i) i (e.cs i + k) S0 → StepPre b (e.H 0) (e.H (i + 1)) o' ∧ ∀ S, StepR b (e.H 0) (e.H (i + 1)) o' S → (S.ps = [] → S.ps ≠ [] ∧ Iv e (i + 1) (some S)) ∧ (S.ps ≠ [] → (k + 1 = 0 ∧ some S = o) ∨ (1 ≤ k + 1 ∧ ∃ S', some S = some S' ∧ Inv e (2 * i) i (e.cs i + (k + 1)) S')) := by
      rintro S0 rfl I
      obtain ⟨a1, a2⟩ := I.led ok (by omega) (by omega)
      rw [eC, eD] at a1 a2
      refine ⟨a1, fun S hS => ?_⟩
      have I2 := a2 S hS
      exact ⟨fun z => absurd z (sup_ne I2.sup), fun _ => .inr ⟨by omega, S, rfl, I2⟩⟩
    rcases hI with ⟨rfl, rfl⟩ | ⟨k1, S0, e0, I⟩
    · cases o' with
      | some S0 => exact stp S0 rfl (by rw [Nat.add_zero]; exact iv.2)
      | none =>
        obtain rfl : i = 0 := iv
        obtain ⟨a1, a2⟩ := Inv.beg ok
        rw [eC, eS] at a1 a2
        refine ⟨⟨sH 0 (by omega), sH 1 (by omega), fun _ => a1⟩, fun S hS => ?_⟩
        have I2 := a2 S hS
        refine ⟨fun z => absurd z (sup_ne I2.sup), fun _ => .inr ⟨by omega, S, rfl, ?_⟩⟩
        rw [ok.c0]
        exact I2
    · exact stp S0 e0 I
  · rcases hI with ⟨z, _⟩ | ⟨_, S', e1, I⟩
    · omega
    · obtain rfl := Option.some.inj e1
      rw [← c1] at I
      obtain ⟨a1, a2⟩ := I.cut ok (by omega) (by omega) rfl cT
      rw [eS] at a1 a2
      refine ⟨a1, fun S1 h1 => ?_⟩
      obtain ⟨b1, b2, b3⟩ := a2 S1 h1
      exact ⟨fun z => absurd z b1, fun _ => ⟨b2, fun S2 h2 => by
        have I2 := b3 S2 h2
        exact ⟨sup_ne I2.sup, by omega, I2⟩⟩⟩
/-- another run: nothing is left -/
theorem beh_other (d : Dat b m ls ns shs ys) {q : Int × Int} (hq : PullOk b q) (hs : Sure b q) {i : Nat} (hi : i < ns.length) (hp : b.p.toNat ≤ i) {S0 : Sh} (iv : Iv (evn b m ls ns ys) i (some S0)) {r : Nat} (r1 : b.lo ≤ r) (r2 : (r : Int) ≤ b.K) (hne : (r : Int) ≠ ns[i]) :
    Behind b (ys.getD 0 0) (ys.getD (i + 1) 0) r (some S0) fun S => S.ps = [] := by
  have ok := d.ok
  obtain ⟨c1, c2, c3⟩ := d.csE hi
  have cT := d.csT (i := i + 1) hi
  have n7 := d.n7
  have K6 := d.K6
  have l1 := d.hb.l1
  have rr := d.run ns[i] (List.getElem_mem _)
  have T42 := d.T42
  have sT := d.sum
  -- the strain
  have top := (d.cs0 (i := ns.length) (Nat.le_refl _)).2
  obtain ⟨j, j1, j2, j3⟩ := strain_ex d.hb hq d.run d.lead (by omega) hp (by omega)
  have q0 := hq.bq.pos
  have Q0 := qR_nn q0 hq.nn
  have sR := sure_R q0 hs
  have z1 := (d.cs0 (i := i) (by omega)).1
  have z2 := (d.cs0 (i := j) (by omega)).1
  have ub := psum_ub (k := b.K) (ns := ns) (i := i) (fun x hx => (d.run x hx).2) (by omega)
  have ub2 : (i : Int) * b.K ≤ 6 * 6 := Int.mul_le_mul (by omega) K6 (by omega) (by omega)
  have ecs : ∀ j, (evn b m ls ns ys).cs j = (psum 0 ns j).toNat := fun _ => rfl
  have hQ : 4 * (b.sh : Rat) + b.dr * ((((evn b m ls ns ys).cs i - (evn b m ls ns ys).cs j : Nat) : Rat) * ((((evn b m ls ns ys).cs i - (evn b m ls ns ys).cs j : Nat) : Rat) - 1)) ≤ (((evn b m ls ns ys).cs i - (evn b m ls ns ys).cs j : Nat) : Rat) * qR q := by
    refine lef_R q0 (by rw [ecs, ecs]; omega) ?_
    rw [show (((evn b m ls ns ys).cs i - (evn b m ls ns ys).cs j : Nat) : Int) = psum 0 ns i - psum 0 ns j by rw [ecs, ecs]; omega]
    exact j3
  have jlt : (evn b m ls ns ys).cs j < (evn b m ls ns ys).cs i := by rw [ecs, ecs]; omega
  have ci36 : (evn b m ls ns ys).cs i ≤ 36 := by rw [ecs]; omega
  generalize he : evn b m ls ns ys = e at *
  have eH : ∀ j, e.H j = ys.getD j 0 := fun j => by rw [← he]; rfl
  have eC : e.cell = b.cell := by rw [← he]; rfl
  have eD : e.dr = b.dr := by rw [← he]; rfl
  have eS : e.sh = b.sh := by rw [← he]; rfl
  have eL : e.L = ns.length := by rw [← he]; rfl
  have eT : e.T = ls.length := by rw [← he]; rfl
  have sH := ok.hS
  obtain ⟨i1, I⟩ := iv
  rw [← eD, ← eS] at hQ
  have str := I.str (by omega) jlt hQ
  rw [← eD, ← eS, ← eC] at sR
  rw [← eH, ← eH]
  have n01 := I.n1
  by_cases hlt : (r : Int) < ns[i]
  · -- too short
    have hK : (r : Rat) ≤ ((b.K - 1 : Int) : Rat) := by
      have : (r : Int) ≤ b.K - 1 := by omega
      exact_mod_cast this
    refine ⟨sH 0 (by omega), sH (i + 1) (by omega), by omega, by omega, fun k o' => ∃ S, o' = some S ∧ Lt e (2 * i) (e.cs i) k (qR q) S, ⟨S0, rfl, I.lt str⟩, fun k o' hk hI => ?_, fun S hI => ?_⟩
    · obtain ⟨S, rfl, L⟩ := hI
      obtain ⟨a1, a2⟩ := L.led ok (by omega) n01 (by omega)
      rw [eC, eD] at a1 a2
      exact ⟨a1, fun S' hS' => ⟨fun z => z, fun _ => ⟨S', rfl, a2 S' hS'⟩⟩⟩
    · obtain ⟨S', eS1, L⟩ := hI
      obtain rfl := Option.some.inj eS1
      obtain ⟨a1, a2⟩ := L.cut ok (by omega) (by omega) cT (by omega) Q0 hK sR
      rw [eS] at a1 a2
      exact ⟨a1, fun S1 h1 => ⟨fun _ => a2 S1 h1, fun z => absurd (a2 S1 h1) z⟩⟩
  · -- too long
    have hK : (ns[i].toNat : Rat) ≤ ((b.K - 1 : Int) : Rat) := by
      have : ((ns[i].toNat : Nat) : Int) ≤ b.K - 1 := by omega
      exact_mod_cast this
    refine ⟨sH 0 (by omega), sH (i + 1) (by omega), by omega, by omega, fun k o' => k ≤ r ∧ ∃ S, o' = some S ∧ Gt e (2 * i) (e.cs i) ns[i].toNat k (qR q) S, ⟨by omega, S0, rfl, I.gt c2 str⟩, fun k o' hk hI => ?_, fun S hI => ?_⟩
    · obtain ⟨_, S, rfl, L⟩ := hI
      obtain ⟨a1, a2⟩ := L.led ok (by omega) n01 (by omega) (by omega)
      rw [eC, eD] at a1 a2
      exact ⟨a1, fun S' hS' => ⟨fun z => z, fun _ => ⟨by omega, S', rfl, a2 S' hS'⟩⟩⟩
    · obtain ⟨_, S', eS1, L⟩ := hI
      obtain rfl := Option.some.inj eS1
      obtain ⟨a1, a2⟩ := L.cut ok (by omega) (by omega) c1.symm (by omega) (by omega) Q0 hK sR
      rw [eS] at a1 a2
      exact ⟨a1, fun S1 h1 => ⟨fun z => z, fun _ => a2 S1 h1⟩⟩
end
end FL
end
section
set_option Elab.async false
set_option linter.all false
set_option maxRecDepth 100000
set_option pp.maxSteps 300
/-! The bag is made; sums of tuples; back to the layer that draws nothing. -/
namespace FL
open PySem PySem.Spec PyProof.Rows L2 FM
theorem hasL_int {N : Addr → Prop} {H : Hp} : ∀ ns : List Int, HasL N H (intD ns) (ns.map V.int)
  | [] => rfl
  | n :: ns => ⟨.int n, ns.map V.int, rfl, hasI, hasL_int ns⟩
theorem hasL_int_eq {N : Addr → Prop} {H : Hp} : ∀ {ns : List Int} {xs : List V}, HasL N H (intD ns) xs → xs = ns.map V.int
  | [], xs, h => h
  | n :: ns, xs, h => by
    obtain ⟨x, r, rfl, h1, h2⟩ : ∃ x r, xs = x :: r ∧ Has N H (.int n) x ∧ HasL N H (intD ns) r := h
    obtain rfl : x = .int n := h1
    rw [hasL_int_eq h2]
    rfl
section
variable {X : Cx} {C : Cn} {n : Int} {G : List SD} {K : D → Prop} {KY' : Int → D → Prop} {a b c e tg : Expr} {es : List Expr} {sts : List Stmt} {pos p : Pos} {x y : Str}
theorem w_head63 {aa : Addr} {ns : List Int} (i : Nat) {j : Nat} {p1 p2 p3 : Pos} (g : G[i]? = some (.val (.ref aa))) (hB : C.M.B = none) (hS : SqL X.K C.H0 aa (ns.map V.int)) (hl : ns.length ≤ 63) (k : K (.lst (intD ns))) (hN : X.N[i]? = some x := by rfl) (hv : Vis X.env.scope x := by first | exact Or.inl rfl | exact Or.inr (Or.inl rfl) | exact Or.inr (Or.inr rfl)) (hd : (x == ("__debug__" : Str)) = false := by decide) (hcd : (x == ("__classdict__" : Str)) = false := by decide) :
    W X C G (.Subscript (.Name x p1) (.Slice none (some (.Constant (.int 63) j p2)) none p3) pos) K := fun A σ H E Q q => by
  refine toE (pe_slice sl_list (pv i hN hv hd hcd) po_none (po_some pe_int)) ?_
  obtain ⟨v, e1, hh⟩ := E.sl i _ g
  obtain rfl : v = .ref aa := hh
  have nb : ∀ z, ¬ IsB C.M z := fun z ⟨c, q⟩ => by rw [hB] at q; cases q
  have hS' : SqL X.K H aa (ns.map V.int) := by
    rcases hS with h | h
    · left
      rcases h with h | ⟨ob, h⟩
      · exact .inl (E.r.kp _ _ (fun _ z => by cases z) (nb _) h)
      · exact .inr ⟨ob, E.r.kp _ _ (fun _ z => by cases z) (nb _) h⟩
    · exact .inr h
  refine ⟨.ref aa, e1, 63, rfl, aa, _, rfl, hS', fun l hl2 => ?_⟩
  have e2 : cutV (ns.map V.int) none (some 63) = ns.map V.int := by
    unfold cutV
    rw [HT.sIx_none, List.drop_zero, Nat.sub_zero, show HT.sIx (ns.map V.int).length (ns.map V.int).length (some 63) = min 63 (ns.map V.int).length from HT.sIx_nat _ _ 63, List.length_map]
    exact List.take_of_length_le (by rw [List.length_map]; omega)
  rw [e2]
  have r2 : R C.M H (upd H l (.lst (ns.map V.int))) := R.new hl2
  exact q (.lst (intD ns)) _ _ r2 (E.j.new hl2) ⟨l, _, rfl, E.avN hl2, upd_same, hasL_int ns⟩ k
/-- the sum of a tuple of ints -/
def rSumT (K : PySem.W.Frag) : List V → Hp → VK → Prop := fun vs H Q => ∃ (a : Addr) (ns : List Int), vs = [V.ref a] ∧ SqT K H a (ns.map V.int) ∧ Q (.int ns.sum) H
theorem sumT_raw {prog : Program} {w : World} {A : Around} {E : Value → Shared → Prop} {s : Shared} {t : Addr} {its : List Value} {ns : List Int} {Q : Value → Shared → Prop} (hh : A.handled = none) (hl : s.heap.IsTuple t its.toArray) (hi : IntsAre its ns)
    (h : ∀ h' tk t', (∀ b o, s.heap.get? b = some o → h'.get? b = some o) → Q (.int ns.sum t') { s with heap := h', toks := tk }) : wpAny (model prog w) A (call (.builtin "sum") [.ref t]) Q E s := by
  obtain ⟨ys, ey⟩ := hi.allInts.items
  have hn : numsOf its.toArray.toList = ns := by rw [show its.toArray.toList = its from rfl, hi.numsOf]
  rw [ey] at hl hn
  rw [nums_intItems] at hn
  refine PySem.W.ktm_sumG hh hl fun h' tk t' hk => ?_
  rw [preSum_eq, List.take_of_length_le (i := _) (by simp)]
  rw [hn]
  exact h h' tk t' hk
theorem cr_sumT (hc : X.calm = true) : CallR X (.builtin "sum") (rSumT X.K) := by
  rintro pins s σ H vs us Q I r ⟨a, ns, rfl, hs, q⟩
  obtain ⟨its, rv, hl, _⟩ := I.tuple hs
  rw [Vals.ref1 r]
  exact sumT_raw (I.ok.hd hc) hl rv.ints fun h' tk t' hk => ⟨.int _, H, I.kept hk, ⟨_, rfl⟩, q⟩
end
end FL
end
section
set_option Elab.async false
set_option linter.all false
set_option maxRecDepth 100000
set_option pp.maxSteps 300
/-! bag; what the law's body wants more of the layer. -/
namespace FL
open PySem PySem.Spec PyProof.Rows L2 FM
section
variable {X : Cx} {C : Cn} {n : Int} {G : List SD} {K : Int → D → Prop} {KS : KY} {a b c e tg : Expr} {es : List Expr} {sts : List Stmt} {pos p : Pos} {x y : Str}
theorem y_sumT (hm : X.mg "sum" = none) (hc : X.calm = true) (h : Y X C n G e fun n' d => ∃ ns : List Int, d = .tup (intD ns) ∧ K n' (.int ns.sum)) (hg : Gl X "sum" := by rfl) (he : starEach [e] X.env = (false, eval e X.env) :: starEach [] X.env := by rfl) (hpl : (backTo pos (starEach [] X.env)).any (·.1) = false := by rfl) : Y X C n G (.Call (.Name "sum" p) [e] [] pos) K := fun A σ H E B Q q => by
  refine toE (pe_callB (cr_sumT hc) hg hm (by decide +kernel) (pa_cons pwE pa_nil he) (by decide) (by decide) he hpl) ?_
  refine h A σ H E B _ fun n' d v H2 r j b hh k => ?_
  obtain ⟨ns, rfl, k⟩ := k
  obtain ⟨p, xs, rfl, hp, hL⟩ : ∃ p xs, v = .ref p ∧ H2 p = some (.tup xs) ∧ HasL _ H2 (intD ns) xs := hh
  rw [hasL_int_eq hL] at hp
  exact ⟨p, ns, rfl, SqT.of hp, q _ _ _ H2 r j b hasI k⟩
theorem y_catT (h : Y X C n G a fun n1 da => Y X C n1 G b fun n2 db => ∃ ds es, da = .tup ds ∧ db = .tup es ∧ ds.length + es.length ≤ 1000 ∧ K n2 (.tup (ds ++ es))) : Y X C n G (.BinOp a .Add b pos) K :=
  y_two (pe_op op_catA pwE pwE) h fun A H n' x y da db Q j _ hx hy k q av => by
    obtain ⟨ds, es, rfl, rfl, hl, k⟩ := k
    obtain ⟨p, xs, rfl, hp, hL⟩ : ∃ p xs, x = .ref p ∧ H p = some (.tup xs) ∧ HasL _ H ds xs := hx
    obtain ⟨p', ys, rfl, hp', hL'⟩ : ∃ p xs, y = .ref p ∧ H p = some (.tup xs) ∧ HasL _ H es xs := hy
    refine ⟨p, p', xs, ys, rfl, rfl, SqT.of hp, SqT.of hp', by rw [HasL.len hL, HasL.len hL']; exact Nat.le_of_lt (small1000 hl), fun e => ?_, fun _ e => ?_, fun _ _ l hl => ?_⟩
    · subst e
      obtain rfl : ds = [] := List.length_eq_zero_iff.mp (HasL.len hL).symm
      exact q (.tup es) _ H R.refl j ⟨p', ys, rfl, hp', hL'⟩ k
    · subst e
      obtain rfl : es = [] := List.length_eq_zero_iff.mp (HasL.len hL').symm
      rw [List.append_nil] at k
      exact q (.tup ds) _ H R.refl j ⟨p, xs, rfl, hp, hL⟩ k
    · have r2 : R (m0 C.M) H (upd H l (.tup (xs ++ ys))) := R.new hl
      exact q (.tup (ds ++ es)) _ _ r2 (j.new hl) ⟨l, _, rfl, upd_same, HasL.app (hL.go j r2.ofm0) (hL'.go j r2.ofm0)⟩ k
theorem KB.ex {M : Md} {H : Hp} (j : J M H) : ∃ n, KB M H n := by
  cases h : M.B with
  | none => exact ⟨0, Int.le_refl _, fun b c e => by rw [h] at e; cases e⟩
  | some bc =>
    obtain ⟨b, c⟩ := bc
    obtain ⟨x, s, k, cs, e1, a1, a2, a3, a4, e2, a5⟩ := j.1 b c h
    refine ⟨k, a4, fun b' c' e => ?_⟩
    rw [h] at e
    cases e
    exact ⟨x, s, k, e1, Int.le_refl _⟩
/-- from here on nothing is drawn -/
theorem yss_w (h : WSs X C G sts { nx := fun G' => ∀ n', KS.nx n' G', rt := fun d => ∀ n', KS.rt n' d }) : YSs X C n G sts KS := fun A σ H E B D q => h A σ H E D
  ⟨fun G' A' σ' H' E' k => by
    obtain ⟨n', b⟩ := KB.ex E'.j
    exact q.nx n' G' A' σ' H' E' b (k n'), fun d v H' j r hh k => by
    obtain ⟨n', b⟩ := KB.ex j
    exact q.rt n' d v H' j r b hh (k n'), fun _ _ _ _ _ k => k.elim, fun _ _ _ _ _ k => k.elim⟩
end
section
variable {P : Program} {w : World} {K : PySem.W.Frag} {mg : Str → Option Value} {base : Heap}
/-- what bag promises -/
def spB (K : PySem.W.Frag) (Pt : Addr) : Sp := fun vs H Q _ => ∃ (a : Addr) (ns : List Int), vs = [.ref a] ∧ SqL K H a (ns.map V.int) ∧ ns.length ≤ 63 ∧ LamX.Tabs (T0 Pt) H ∧
  ∀ b c (cs : List Int) H', LamX.Tabs (T0 Pt) H' → H' b = some (.lst [.int 0, .int 1234567891, .int 0, .ref c]) → H' c = some (.lst (cs.map V.int)) → (∀ z ∈ cs, 0 ≤ z) → cs.length ≤ 63 → Q (.ref b) H'
structure FnB (P : Program) (w : World) (K : PySem.W.Frag) (mg : Str → Option Value) (base : Heap) (Pt : Addr) : Prop where
  ex : ∃ f fd ps, FnOk P w K mg base CX0 1 f fd ps (spB K Pt) ∧ mg "_law_bag" = some (.ref f) ∧ PySem.W.keepIn K (.ref f) = true ∧ Binds K fd ps []
theorem ok_bag {Pt : Addr} (B : Bt mg) (d : Df K mg "_law_bag" s_law_bag ["_law_script"]) : FnB P w K mg base Pt := by
  obtain ⟨f, fd, Fu, gm, bS⟩ := d.ex
  have nd := sc_law_bag.nd
  refine ⟨f, fd, _, Fu.ok sc_law_bag (fun vs H Q E h => ?_) (fun cdv A outer s H vs Q E hr h => ?_), gm, Fu.kp, bS⟩
  · obtain ⟨a, ns, rfl, _⟩ := h
    rfl
  · obtain ⟨a, ns, rfl, hS, hl, hT, q⟩ := h
    have j : J ⟨none, T0 Pt⟩ H := ⟨fun _ _ z => (by cases z), hT⟩
    have E0 : Est ⟨⟨none, T0 Pt⟩, H, []⟩ (startD n_law_bag [.ref a]) (fun _ => 0) (L2.start n_law_bag [.ref a]) H := start_est j ⟨_, _, rfl, hasR, rfl⟩
    refine ⟨_, pwSs, ?_⟩
    refine toSs (pss_one pwS) (toS (ps_ret pwE) (toE (pe_lst pwA) ?_))
    have hX : (cxOf CX0 P w K mg base n_law_bag "_law_bag" (defScope s_law_bag) f cdv A outer s H E).nox = XC P w K mg base n_law_bag "_law_bag" s_law_bag f cdv A outer s H E := rfl
    have key : WA (XC P w K mg base n_law_bag "_law_bag" s_law_bag f cdv A outer s H E) ⟨⟨none, T0 Pt⟩, H, []⟩ (startD n_law_bag [.ref a]) (match (defBody s_law_bag).getD 0 (.Pass ⟨0, 0, 0, 0⟩) with | .Return (some (.List es _)) _ => es | _ => []) fun ds => ∃ cs : List Int, ds = [.int 0, .int 1234567891, .int 0, .lst (intD cs)] ∧ (∀ z ∈ cs, 0 ≤ z) ∧ cs.length ≤ 63 := by
      refine wa_cons (w_int (wa_cons (w_int (wa_cons (w_int (wa_cons (w_lc (own := [("_law_cell", 1)]) (blk (by rfl)) nd (wi_list (w_head63 (ns := ns) 0 rfl rfl hS hl ⟨_, rfl, fun Zs => ?_⟩))))))))) 
      rw [intD_len]
      refine ⟨fun i d => ∃ z : Int, d = .int z ∧ 0 ≤ z, by omega, fun i d ⟨z, e, _⟩ => by rw [e]; rfl, fun i hi => ?_, fun ds dl dh => ?_⟩
      · rw [show nthD (intD ns) i = .int ns[i] from nthD_map hi]
        intro s' H' c' cl fp
        refine wgw_name 1 ?_ (by decide) nd
        intro s2 H2 c2 cl2 fp2
        exact w_abs B.abs (w_v 1 rfl ⟨_, rfl, _, rfl, by split <;> omega⟩)
      · obtain ⟨cs, rfl, hcs⟩ := ints_back (p := fun z => 0 ≤ z) fun d hd => by
          obtain ⟨i, hi⟩ := List.getElem?_of_mem hd
          exact dh i d hi
        rw [intD_len] at dl
        exact wa_nil ⟨cs, rfl, hcs, by omega⟩
    refine key _ _ _ E0 _ fun ds vs H2 r j2 hh k => ?_
    obtain ⟨cs, rfl, hcs, hlc⟩ := k
    obtain ⟨v1, r1, rfl, h1, hh⟩ : ∃ x r, vs = x :: r ∧ Has _ H2 (.int 0) x ∧ HasL _ H2 [.int 1234567891, .int 0, .lst (intD cs)] r := hh
    obtain ⟨v2, r2, rfl, h2, hh⟩ : ∃ x r, r1 = x :: r ∧ Has _ H2 (.int 1234567891) x ∧ HasL _ H2 [.int 0, .lst (intD cs)] r := hh
    obtain ⟨v3, r3, rfl, h3, hh⟩ : ∃ x r, r2 = x :: r ∧ Has _ H2 (.int 0) x ∧ HasL _ H2 [.lst (intD cs)] r := hh
    obtain ⟨v4, rfl, h4⟩ := HasL.one' hh
    obtain rfl : v1 = .int 0 := h1
    obtain rfl : v2 = .int 1234567891 := h2
    obtain rfl : v3 = .int 0 := h3
    obtain ⟨c, xs, rfl, _, hc, hL⟩ : ∃ p xs, v4 = .ref p ∧ ¬ _ ∧ H2 p = some (.lst xs) ∧ HasL _ H2 (intD cs) xs := h4
    rw [hasL_int_eq hL] at hc
    refine ⟨(by show 4 ≤ sizeLine; decide), fun pp hp => ?_⟩
    exact q pp c cs _ (j2.new hp).2 upd_same (by rw [upd_ne (ne_of_none hc hp)]; exact hc) hcs hlc
end
end FL
end
section
set_option Elab.async false
set_option linter.all false
set_option maxRecDepth 100000
set_option pp.maxSteps 300
/-! The law's loop. -/
namespace FL
open PySem PySem.Spec PyProof.Rows L2 FM
theorem Behind.mono {b : Pm} {f m : Int} {run : Nat} {o : Option Sh} {Q Q' : Sh → Prop} (h : Behind b f m run o Q) (k : ∀ S, Q S → Q' S) : Behind b f m run o Q' := by
  obtain ⟨a1, a2, a3, a4, I, i0, st, fin⟩ := h
  refine ⟨a1, a2, a3, a4, I, i0, fun j o' hj hI => ?_, fun S hI => ?_⟩
  · obtain ⟨p, s⟩ := st j o' hj hI
    exact ⟨p, fun S hS => ⟨fun z => k _ ((s S hS).1 z), (s S hS).2⟩⟩
  · obtain ⟨p, s⟩ := fin S hI
    refine ⟨p, fun S1 h1 => ⟨fun z => k _ ((s S1 h1).1 z), fun z => ?_⟩⟩
    obtain ⟨p2, s2⟩ := (s S1 h1).2 z
    exact ⟨p2, fun S2 h2 => k _ (s2 S2 h2)⟩
theorem frs_get {ys : List Int} {i : Nat} (h : i < ys.length) : L2.atI (frs ys) (i : Int) = some (pr (fr (ys.getD i 0))) := by
  refine atI_nat ?_
  unfold frs
  rw [List.getD_eq_getElem?_getD, List.getElem?_map, List.getElem?_eq_getElem h]
  rfl
theorem imm_oD (o : Option Sh) : True := trivial
section
variable {P : Program} {w : World} {K : PySem.W.Frag} {mg : Str → Option Value} {base : Heap}
set_option maxHeartbeats 4000000 in
theorem law_loop {f : Addr} {cdv : Value} {A : Around} {outer : List Env} {s0 : Shared} {H : Hp} {E : XK} {C : Cn} {KS : KD} {kb : Nat} (B : Bt mg) (gb : FnR P w K mg base "_law_behind" kb F_behind) (hr : Room kb (XC P w K mg base n_law "law" s_law f cdv A outer s0 H E).A) (hu : (XC P w K mg base n_law "law" s_law f cdv A outer s0 H E).A.units + 64 < cLine)
    {b : Pm} {m : Int} {ls ns shs ys : List Int} (d : Dat b m ls ns shs ys) (sure : b.lo ≠ b.K → ∃ q, PullOk b q ∧ Sure b q) {o0 o1 o2 o3 : SD} (no0 : noOw [o0, o1, o2, o3] = true) (k : KS.rt (.bl true)) :
    WSs (XC P w K mg base n_law "law" s_law f cdv A outer s0 H E) C [o0, o1, o2, o3, .val (.int b.lo), .val (.int b.K), .val (.int b.p), .val (bD b), .val (.tup (intD ns)), .val (.tup (frs ys)), .no, .no, .no, .no, .no] ((defBody s_law).drop 6) KS := by
  have nd := sc_law.nd
  have hb := d.hb
  have l1 := hb.l1
  have lK := hb.lK
  have K2 := hb.K2
  have p1 := hb.p1
  have n7 := d.n7
  obtain ⟨hy, hrr⟩ := d.hr
  refine wss_cons (ws_set 10 (w_non ?_) nd)
  refine wss_cons (ws_for (wi_enumT B.enumerate (w_v 8 rfl ⟨_, rfl, fun Zs => ?_⟩)))
  rw [intD_len]
  refine ⟨fun i G => ∃ o o11 o12 o13 o14, noOw [o11, o12, o13, o14] = true ∧ i ≤ ns.length ∧ Iv (evn b m ls ns ys) i o ∧ G = [o0, o1, o2, o3, .val (.int b.lo), .val (.int b.K), .val (.int b.p), .val (bD b), .val (.tup (intD ns)), .val (.tup (frs ys)), .val (oD o), o11, o12, o13, o14], ⟨none, .no, .no, .no, .no, rfl, Nat.zero_le _, rfl, rfl⟩, ?_, ?_⟩
  · rintro i G hi ⟨o, o11, o12, o13, o14, ho, hi1, iv, rfl⟩
    show WG _ _ _ _ (D.tup [.int i, nthD (intD ns) i]) _
    rw [show nthD (intD ns) i = .int ns[i] from nthD_map hi]
    refine wg_tup (wgs_cons fun _ => wg_name 11 (wgs_cons fun _ => wg_name 12 (wgs_nil ?_) nd) nd) rfl
    obtain ⟨_, c2, c3⟩ := d.csE hi
    have rr := d.run ns[i] (List.getElem_mem _)
    have tru := beh_true d hi iv
    have last : ∀ (C : Cn) (KS : KD) (o13 o14 : SD), noOw [o13, o14] = true → (∀ S, Iv (evn b m ls ns ys) (i + 1) (some S) → KS.nx [o0, o1, o2, o3, .val (.int b.lo), .val (.int b.K), .val (.int b.p), .val (bD b), .val (.tup (intD ns)), .val (.tup (frs ys)), .val (shD S), .val (.int i), .val (.int ns[i]), o13, o14]) →
        WSs (XC P w K mg base n_law "law" s_law f cdv A outer s0 H E) C [o0, o1, o2, o3, .val (.int b.lo), .val (.int b.K), .val (.int b.p), .val (bD b), .val (.tup (intD ns)), .val (.tup (frs ys)), .val (oD o), .val (.int i), .val (.int ns[i]), o13, o14] ((inB (defBody s_law) 7).drop 1) KS := by
      intro C KS o13 o14 ho hk
      have no : noOw [o0, o1, o2, o3, .val (.int b.lo), .val (.int b.K), .val (.int b.p), .val (bD b), .val (.tup (intD ns)), .val (.tup (frs ys)), .val (oD o), .val (.int i), .val (.int ns[i]), o13, o14] = true := by
        simp only [noOw, List.all_cons, List.all_nil, Bool.and_true, Bool.and_eq_true] at ho no0 ⊢
        simp [ho, no0]
      refine wss_one (ws_set 10 (w_callL gb hr no (wa_cons (w_v 7 rfl (wa_cons (w_v 10 rfl (wa_cons (w_ix (w_v 9 rfl (w_int ⟨_, _, _, .inl rfl, rfl, frs_get (i := 0) (by omega), ?_⟩)))))))))  nd)
      refine wa_cons (w_v 12 rfl (wa_cons (w_ix (w_v 9 rfl (w_add (w_v 11 rfl (w_int ⟨_, _, rfl, rfl, _, _, _, .inl rfl, rfl, frs_get (i := i + 1) (by omega), ?_⟩))))))) 
      refine wa_nil ⟨b, _, _, ns[i].toNat, o, by rw [c3], hb, tru.mono fun S hS => hk S hS.2⟩
    refine wss_cons (ws_if (wt_ge (w_v 11 rfl (w_v 6 rfl ⟨_, _, rfl, rfl, fun hz => ?_, fun hz => wss_nil ?_⟩))))
    · have hz := of_decide_eq_true hz
      have hp : b.p.toNat ≤ i := by omega
      refine wss_one (ws_for (wi_range2 B.range (w_v 4 rfl (w_add (w_v 5 rfl (w_int ⟨_, _, rfl, rfl, _, _, rfl, rfl, by omega, by omega, by omega, by omega, fun Zs2 => ?_⟩)))))) 
      refine ⟨fun _ G => ∃ o13 o14, noOw [o13, o14] = true ∧ G = [o0, o1, o2, o3, .val (.int b.lo), .val (.int b.K), .val (.int b.p), .val (bD b), .val (.tup (intD ns)), .val (.tup (frs ys)), .val (oD o), .val (.int i), .val (.int ns[i]), o13, o14], ⟨o13, o14, ?_, rfl⟩, ?_, ?_⟩
      · simp only [noOw, List.all_cons, List.all_nil, Bool.and_true, Bool.and_eq_true] at ho ⊢
        simp [ho]
      · rintro j G hj ⟨o13, o14, ho2, rfl⟩
        refine wg_name 13 ?_ nd
        have er : b.lo + (j : Int) = ((b.lo.toNat + j : Nat) : Int) := by omega
        have no : noOw [o0, o1, o2, o3, .val (.int b.lo), .val (.int b.K), .val (.int b.p), .val (bD b), .val (.tup (intD ns)), .val (.tup (frs ys)), .val (oD o), .val (.int i), .val (.int ns[i]), .val (.int (b.lo + (j : Int))), o14] = true := by
          simp only [noOw, List.all_cons, List.all_nil, Bool.and_true, Bool.and_eq_true] at ho2 no0 ⊢
          simp [ho2, no0]
        refine wss_cons (ws_set 14 (w_callL gb hr no (wa_cons (w_v 7 rfl (wa_cons (w_v 10 rfl (wa_cons (w_ix (w_v 9 rfl (w_int ⟨_, _, _, .inl rfl, rfl, frs_get (i := 0) (by omega), ?_⟩)))))))))  nd)
        refine wa_cons (w_v 13 rfl (wa_cons (w_ix (w_v 9 rfl (w_add (w_v 11 rfl (w_int ⟨_, _, rfl, rfl, _, _, _, .inl rfl, rfl, frs_get (i := i + 1) (by omega), ?_⟩)))))))
        have bh : Behind b (ys.getD 0 0) (ys.getD (i + 1) 0) (b.lo.toNat + j) o fun S => (!S.ps.isEmpty) = decide (b.lo + (j : Int) = ns[i]) := by
          by_cases he : b.lo + (j : Int) = ns[i]
          · have e2 : b.lo.toNat + j = ns[i].toNat := by omega
            rw [e2]
            refine tru.mono fun S hS => ?_
            rw [decide_eq_true he]
            cases q : S.ps with
            | nil => exact absurd q hS.1
            | cons a r => rfl
          · cases o with
            | none => exact absurd iv (by show ¬ i = 0; omega)
            | some S0 =>
              obtain ⟨q, hq, hs⟩ := sure (by omega)
              refine (beh_other d hq hs hi hp iv (r := b.lo.toNat + j) (by omega) (by omega) (by omega)).mono fun S hS => ?_
              rw [decide_eq_false he, hS]
              rfl
        refine wa_nil ⟨b, _, _, b.lo.toNat + j, o, by rw [← er], hb, bh.mono fun S hS => ?_⟩
        refine wss_one (ws_if (wt_neB (w_neNil hu (w_ix (w_v 14 rfl (w_int ⟨_, _, .lst (prs S.ps), .inl rfl, rfl, rfl, S.ps, rfl, w_eq (w_v 13 rfl (w_v 12 rfl ⟨_, _, rfl, rfl, _, _, rfl, rfl, fun hz => ?_, fun hz => wss_nil ?_⟩))⟩))))))
        · rw [hS] at hz
          simp at hz
        · exact ⟨_, _, rfl, rfl⟩
      · rintro G ⟨o13, o14, ho2, rfl⟩
        exact last _ _ o13 o14 ho2 fun S hS => ⟨some S, _, _, _, _, by simp only [noOw, List.all_cons, List.all_nil, Bool.and_true, Bool.and_eq_true] at ho2 ⊢; simp [ho2], by omega, hS, rfl⟩
    · have ho2 : noOw [o13, o14] = true := by
        simp only [noOw, List.all_cons, List.all_nil, Bool.and_true, Bool.and_eq_true] at ho ⊢
        simp [ho]
      exact last _ _ o13 o14 ho2 fun S hS => ⟨some S, _, _, _, _, by simp only [noOw, List.all_cons, List.all_nil, Bool.and_true, Bool.and_eq_true] at ho2 ⊢; simp [ho2], by omega, hS, rfl⟩
  · rintro G ⟨o, o11, o12, o13, o14, ho, hi1, iv, rfl⟩
    exact wss_one (ws_ret (w_bl k))
end
end FL
end
section
set_option Elab.async false
set_option linter.all false
set_option maxRecDepth 100000
set_option pp.maxSteps 300
/-! The law. -/
namespace FL
open PySem PySem.Spec PyProof.Rows L2 FM
theorem Par.T40 {dr sh lo K p c : Int} (h : Par dr sh lo K p) : ∀ T, Trn ⟨c, dr, sh, lo, K, p⟩ T → T ≤ 40 := fun T t => by
  false_or_by_contra
  have e := t.lt 40 (by decide) (by omega)
  have e1 : dr * (40 * (40 + 1)) < 4 * sh := e
  have dz := h.d.z
  have s2 := h.s2
  have l1 : 4 * sh ≤ dr * (T * (T + 1)) := t.le
  rcases dz with z | z
  · rw [z, Int.zero_mul] at l1 e1
    omega
  · omega
theorem Par.ok {dr sh lo K p c : Int} (h : Par dr sh lo K p) (c1 : 1 ≤ c) (c2 : Sm 200 c) : Pm.Ok ⟨c, dr, sh, lo, K, p⟩ := by
  have a1 := h.d.z
  have a2 := h.s.z
  have a3 := h.d2
  have a4 := h.s2
  have a5 := h.l1
  have a6 := h.l3
  have a7 := h.k1
  have a8 := h.k2
  have a9 := h.p1
  have b1 := h.p3
  exact ⟨c1, c2, by show 0 ≤ dr; omega, by show dr ≤ 10000; omega, by show 0 ≤ sh; omega, by show sh ≤ 10000; omega, h.l1, h.k1, by show K ≤ 100; omega, h.p1, by show p ≤ 100; omega⟩
theorem Sure.mono {b : Pm} {q : Int × Int} {c c' : Int} (hq : 0 < q.2) (h : Sure (b.wc c) q) (hc : c ≤ c') : Sure (b.wc c') q := by
  unfold Sure at *
  have e1 : (b.wc c).sh = (b.wc c').sh := rfl
  have e2 : (b.wc c).dr = (b.wc c').dr := rfl
  have e3 : (b.wc c).K = (b.wc c').K := rfl
  have e4 : (b.wc c).cell = c := rfl
  have e5 : (b.wc c').cell = c' := rfl
  rw [e1, e2, e3, e4] at h
  rw [e5]
  have : c * q.2 ≤ c' * q.2 := Int.mul_le_mul_of_nonneg_right hc (Int.le_of_lt hq)
  omega
theorem imm_rep (p : Nat) (k : Int) : imm (.tup (List.replicate p (.int k))) = true := by
  show immL _ = true
  rw [immL_iff]
  intro d hd
  rw [(List.mem_replicate.mp hd).2]
  rfl
theorem imm_intD (ns : List Int) : imm (.tup (intD ns)) = true := by
  show immL _ = true
  rw [immL_iff]
  intro d hd
  obtain ⟨x, _, rfl⟩ := List.mem_map.mp hd
  rfl
theorem imm_frsT (ns : List Int) : imm (.tup (frs ns)) = true := imm_frs ns
section
variable {P : Program} {w : World} {K : PySem.W.Frag} {mg : Str → Option Value} {base : Heap}
def spL (K : PySem.W.Frag) (Pt : Addr) : Sp := fun vs H Q _ => ∃ (a : Addr) (ns : List Int), vs = [.ref a] ∧ SqL K H a (ns.map V.int) ∧ ns.length ≤ 63 ∧ LamX.Tabs (T0 Pt) H ∧ ∀ H', Q (.bl true) H'
structure Subs (P : Program) (w : World) (K : PySem.W.Frag) (mg : Str → Option Value) (base : Heap) (Pt : Addr) : Prop where
  shape : FnY P w K mg base "_law_shape_of_bounds" 4 F_shape
  least : FnR P w K mg base "least_cell" 11 (F_leastc Pt)
  some' : FnY P w K mg base "_law_some" 2 F_some
  sure : FnR P w K mg base "_law_is_sure" 8 F_sure
  lead : FnR P w K mg base "_law_lead" 1 F_llead
  row : FnY P w K mg base "_law_row" 2 F_row
  take : FnY P w K mg base "_law_take" 1 F_take
  hear : FnR P w K mg base "_law_hearing" 5 F_hearing
  tell : FnY P w K mg base "_law_telling" 5 F_telling
  shft : FnY P w K mg base "_law_shifts" 4 F_shifts
  beh : FnR P w K mg base "_law_behind" 6 F_behind
set_option maxHeartbeats 4000000 in
theorem law_rest {f : Addr} {cdv : Value} {A : Around} {outer : List Env} {s0 : Shared} {H H' : Hp} {E : XK} {Pt a bb cc : Addr} (B : Bt mg) (U : Subs P w K mg base Pt) (hr : Room 11 (XC P w K mg base n_law "law" s_law f cdv A outer s0 H E).A) :
    YSs (XC P w K mg base n_law "law" s_law f cdv A outer s0 H E) ⟨⟨some (bb, cc), T0 Pt⟩, H', []⟩ 0 [.val (.ref a), .val (.ref bb), .no, .no, .no, .no, .no, .no, .no, .no, .no, .no, .no, .no, .no] ((defBody s_law).drop 1) { nx := fun _ _ => False, rt := fun _ d => d = .bl true } := by
  have nd := sc_law.nd
  have hm : ∀ {k}, k ≤ 11 → Room k (XC P w K mg base n_law "law" s_law f cdv A outer s0 H E).A := fun h => hr.mono h
  refine yss_cons (ys_asg (y_call U.shape (hm (by decide)) (ya_cons (y_v 1 rfl (ya_cons (y_int (ya_nil ⟨bb, cc, rfl, rfl, by decide, by decide, fun n1 dr sh lo wd p l1 l1' par => ⟨rfl, ?_⟩⟩)))))))
  refine gt_tup (gts_cons (gt_name 2 (gts_cons (gt_name 3 (gts_cons (gt_name 4 (gts_cons (gt_name 5 (gts_cons (gt_name 6 (gts_nil ?_) nd)) nd)) nd)) nd)) nd)) rfl
  -- the bounds
  refine yss_cons (ys_set 7 (y_tup (ya_cons (y_add (y_old U.least (hm (by decide)) (ya_cons (y_v 2 rfl (ya_cons (y_v 3 rfl (ya_cons (y_v 4 rfl (ya_cons (y_v 5 rfl (ya_cons (y_v 6 rfl (ya_nil ⟨⟨1, dr, sh, lo, wd, p⟩, rfl, rfl, par.ok (by decide) (Sm.of (a := 1) (x := 1) 1 (by decide) |>.mono (by decide)), rfl, fun c c1 c2 hc => ⟨rfl, ?_⟩⟩))))))))))))))) nd)
  refine y_call U.some' (hm (by decide)) (ya_cons (y_v 1 rfl (ya_cons (y_lst (ya_cons (y_int (ya_cons (y_int (ya_cons (y_int (ya_cons (y_int (ya_nil ⟨by show 4 ≤ 1000; decide, ya_nil ⟨bb, cc, _, rfl, rfl, by show 1 ≤ 4; decide, by show 4 ≤ 1000; decide, l1', by omega, fun n2 d2 l2 l2' hd => ?_⟩⟩)))))))))))))
  obtain ⟨z, rfl, z0, z2⟩ : ∃ z : Int, d2 = .int z ∧ 0 ≤ z ∧ z ≤ 2 := by
    simp only [List.mem_cons, List.not_mem_nil, or_false] at hd
    rcases hd with rfl | rfl | rfl | rfl <;> exact ⟨_, rfl, by decide, by decide⟩
  refine ⟨rfl, _, _, rfl, rfl, ya_cons (y_v 2 rfl (ya_cons (y_v 3 rfl (ya_cons (y_v 4 rfl (ya_cons (y_v 5 rfl (ya_cons (y_v 6 rfl (ya_nil ⟨by show 6 ≤ 1000; decide, ?_⟩))))))))))⟩
  have hb : Pm.Ok ⟨c + z, dr, sh, lo, wd, p⟩ := par.ok (by omega) ((c2.add ((Sm.of (a := 2) (x := z) 2 (by omega)).mono (by decide : 2 ≤ 160))).mono (by decide))
  have sure : lo ≠ wd → ∃ q, PullOk ⟨c + z, dr, sh, lo, wd, p⟩ q ∧ Sure ⟨c + z, dr, sh, lo, wd, p⟩ q := fun hne => by
    obtain ⟨q, h1, h2⟩ := hc hne
    exact ⟨q, h1.wc (c := c + z), h2.mono h1.bq.pos (by omega)⟩
  generalize hbb : (⟨c + z, dr, sh, lo, wd, p⟩ : Pm) = b at hb sure
  have e_lo : b.lo = lo := by rw [← hbb]
  have e_K : b.K = wd := by rw [← hbb]
  have e_p : b.p = p := by rw [← hbb]
  have e_dr : b.dr = dr := by rw [← hbb]
  have e_sh : b.sh = sh := by rw [← hbb]
  have T40 : ∀ T, Trn b T → T ≤ 40 := by rw [← hbb]; exact par.T40
  show YSs _ _ _ [.val (.ref a), .val (.ref bb), .val (pr (fr dr)), .val (pr (fr sh)), .val (.int lo), .val (.int wd), .val (.int p), .val (bD ⟨c + z, dr, sh, lo, wd, p⟩), .no, .no, .no, .no, .no, .no, .no] _ _
  rw [hbb]
  rw [← e_lo, ← e_K] at sure
  -- sure
  refine yss_cons (ys_if (yt_not (yt_val (y_old U.sure (hm (by decide)) (ya_cons (y_v 7 rfl (ya_nil ⟨b, rfl, hb, T40, sure, rfl, _, rfl, fun hz => (by cases hz), fun _ => yss_nil ?_⟩)))))))
  -- the row
  refine yss_cons (ys_set 8 (y_catT (y_old U.lead (hm (by decide)) (ya_cons (y_v 7 rfl (ya_nil ⟨b, rfl, hb, imm_rep _ _, ?_⟩))))) nd)
  refine y_call U.row (hm (by decide)) (ya_cons (y_v 1 rfl (ya_cons (y_v 7 rfl (ya_cons (y_add (y_int (y_call U.take (hm (by decide)) (ya_cons (y_v 1 rfl (ya_cons (y_int (ya_nil ⟨bb, cc, 4, rfl, rfl, by decide, by decide, l2', by omega, fun n3 v l3 l3' v0 v4 => ⟨rfl, _, _, rfl, rfl, ?_⟩⟩)))))))))))))
  obtain ⟨u, rfl⟩ : ∃ u : Nat, v = u := ⟨v.toNat, by omega⟩
  refine ya_nil ⟨bb, cc, b, 1 + u, rfl, by show [D.ref bb, bD b, D.int (1 + (u : Int))] = _; push_cast; rfl, hb, by omega, l3', by omega, fun n4 rs l4 rl rb => ⟨imm_intD _, ?_⟩⟩
  have p1 := par.p1
  have p3 := par.p3
  have e_row : List.replicate b.p.toNat (D.int b.K) ++ intD rs = intD (List.replicate b.p.toNat b.K ++ rs) := by
    unfold intD
    rw [List.map_append, List.map_replicate]
  refine ⟨_, _, rfl, rfl, by rw [List.length_replicate, intD_len]; omega, ?_⟩
  rw [e_row]
  generalize hns : List.replicate b.p.toNat b.K ++ rs = ns
  have nl : ns.length = b.p.toNat + (1 + u) := by rw [← hns, List.length_append, List.length_replicate, rl]
  have n7 : ns.length ≤ 7 := by omega
  have run : ∀ x ∈ ns, b.lo ≤ x ∧ x ≤ b.K := fun x hx => by
    rw [← hns] at hx
    rcases List.mem_append.mp hx with hx | hx
    · rw [(List.mem_replicate.mp hx).2]
      exact ⟨hb.lK, Int.le_refl _⟩
    · exact rb x hx
  have lead : ns.take b.p.toNat = List.replicate b.p.toNat b.K := by
    rw [← hns, List.take_left' (by rw [List.length_replicate])]
  have K6 : b.K ≤ 6 := by rw [e_K]; have := par.k2; have := par.l3; omega
  have l1b := hb.l1
  have n0 : ∀ x ∈ ns, 0 ≤ x := fun x hx => by have := (run x hx).1; omega
  have sm0 : psum 0 ns ns.length = ns.sum := by unfold psum; rw [List.take_length]; omega
  have s1 : 0 ≤ ns.sum := by rw [← sm0]; have := psum_le n0 (Nat.zero_le ns.length) (Nat.le_refl _); have : psum 0 ns 0 = 0 := by simp [psum]
                             omega
  have s2 : ns.sum ≤ 42 := by
    rw [← sm0]
    have h := psum_ub (k := b.K) (ns := ns) (i := ns.length) (fun x hx => (run x hx).2) (Nat.le_refl _)
    have : (ns.length : Int) * b.K ≤ 7 * 6 := Int.mul_le_mul (by omega) K6 (by have := hb.lK; omega) (by omega)
    omega
  obtain ⟨T, hT⟩ : ∃ T : Nat, ns.sum = T := ⟨ns.sum.toNat, by omega⟩
  obtain ⟨yd, hyd⟩ := par.d.six
  obtain ⟨ys', hys'⟩ := par.s.six
  -- the hearing
  refine yss_cons (ys_set 9 (y_old U.hear (hm (by decide)) (ya_cons (y_call U.tell (hm (by decide)) (ya_cons (y_v 1 rfl (ya_cons (y_v 7 rfl (ya_cons (y_sumT B.sum rfl (y_v 8 rfl ⟨ns, rfl, ?_⟩)))))))))) nd)
  refine ya_nil ⟨bb, cc, b, T, rfl, by rw [hT], hb, ⟨yd * 3, by rw [e_dr, hyd]; omega⟩, by omega, by omega, fun n5 m ls l5 m0 ll ride => ⟨?_, ?_⟩⟩
  · show (imm (pr (fr m)) && (immL (frs ls) && true)) = true
    rw [imm_frs]
    rfl
  refine ya_cons (y_v 8 rfl (ya_cons (y_call U.shft (hm (by decide)) (ya_cons (y_v 1 rfl (ya_cons (y_v 7 rfl (ya_cons (y_add (y_len B.len (y_v 8 rfl ⟨_, .inl rfl, y_int ⟨_, _, rfl, rfl, ?_⟩⟩)))))))))))
  rw [intD_len]
  refine ya_nil ⟨bb, cc, b, ns.length + 1, rfl, by push_cast; rfl, hb, ⟨ys', by rw [e_sh, hys']; omega⟩, by omega, by omega, fun n6 shs l6 sl sb => ⟨imm_frsT _, ?_⟩⟩
  have mk : ∀ ys : List Int, ys.Perm (heardL m ls ns shs) → ys.Pairwise (· ≤ ·) → Dat b m ls ns shs ys := fun ys hp hs => ⟨hb, ride, m0, run, lead, by omega, n7, K6, by rw [sm0, hT, ll], by omega, sb, hp, hs⟩
  have D0 : Dat b m ls ns shs ((heardL m ls ns shs).mergeSort fun a b => decide (a ≤ b)) := mk _ (List.mergeSort_perm _ _) (by
    have := List.pairwise_mergeSort (le := fun a b : Int => decide (a ≤ b)) (fun a b c h1 h2 => by simp at *; omega) (fun a b => by simp; omega) (heardL m ls ns shs)
    exact this.imp fun h => by simpa using h)
  obtain ⟨W, sW, w0, wc, wl, wp⟩ := D0.lim
  have sh1 := hb.s1
  have sh2 := hb.s2
  refine ya_nil ⟨m, ls, ns, shs, rfl, by omega, fun j hj => sm_abs (sW.mono (by decide)) w0 (wp j hj).1 (wp j hj).2, fun l hl => sm_abs (sW.mono (by decide)) w0 (by have := wl l hl; omega) (wl l hl).2, by omega, by omega, fun l hl => (Sm.of (a := 14) 10000 (by have := sb l hl; omega)).mono (by decide), fun j hj => D0.cs0 hj, fun ys hp hs => ⟨imm_frsT _, ?_⟩⟩
  have D := mk ys hp hs
  refine yss_w ?_
  have hu : (XC P w K mg base n_law "law" s_law f cdv A outer s0 H E).A.units + 64 < cLine := hr.units
  have fin := law_loop (C := ⟨⟨some (bb, cc), T0 Pt⟩, H', []⟩) (KS := { nx := fun _ => ∀ _ : Int, False, rt := fun d => ∀ _ : Int, d = .bl true }) B U.beh (hm (by decide)) hu D sure (o0 := .val (.ref a)) (o1 := .val (.ref bb)) (o2 := .val (pr (fr dr))) (o3 := .val (pr (fr sh))) rfl (fun _ => rfl)
  rw [e_lo, e_K, e_p] at fin
  exact fin
end
end FL
end
section
set_option Elab.async false
set_option linter.all false
set_option maxRecDepth 100000
set_option pp.maxSteps 300
/-! The law as a def. -/
namespace FL
open PySem PySem.Spec PyProof.Rows L2 FM
section
variable {P : Program} {w : World} {K : PySem.W.Frag} {mg : Str → Option Value} {base : Heap}
set_option maxHeartbeats 4000000 in
theorem ok_law {Pt f : Addr} {fd : FuncData} (B : Bt mg) (Fu : Fun K "law" "law" s_law f fd) (gb : FnB P w K mg base Pt) (U : Subs P w K mg base Pt) : FnOk P w K mg base CX0 12 f fd ["_law_script"] (spL K Pt) := by
  have nd := sc_law.nd
  refine Fu.ok sc_law (fun vs H Q E h => ?_) (fun cdv A outer s H vs Q E hr h => ?_)
  · obtain ⟨a, ns, rfl, _⟩ := h
    rfl
  · obtain ⟨a, ns, rfl, hS, hl, hT, q⟩ := h
    have j : J ⟨none, T0 Pt⟩ H := ⟨fun _ _ z => (by cases z), hT⟩
    have E0' : Est ⟨⟨none, T0 Pt⟩, H, []⟩ (startD n_law [.ref a]) (fun _ => 0) (L2.start n_law [.ref a]) H := start_est j ⟨_, _, rfl, hasR, rfl⟩
    obtain ⟨fb, fdb, psb, okb, gm, kp, bS⟩ := gb.ex
    have hX : (cxOf CX0 P w K mg base n_law "law" (defScope s_law) f cdv A outer s H E).nox = XC P w K mg base n_law "law" s_law f cdv A outer s H E := rfl
    refine ⟨_, pwSs, ?_⟩
    rw [hX]
    have hr1 : Room 1 (XC P w K mg base n_law "law" s_law f cdv A outer s H E).A := hr.mono (by decide)
    have hr11 : Room 11 (XC P w K mg base n_law "law" s_law f cdv A outer s H E).A := hr
    refine toSs (pss_cons pwS pwSs) (toS (ps_set nd (i := 1) rfl (.inl rfl) pwE rfl (.inl rfl)) ?_)
    refine toE (pe_call okb hr1 rfl gm kp bS .nil pass0 pwA (by decide) rfl rfl) ?_
    have key : WA (XC P w K mg base n_law "law" s_law f cdv A outer s H E) ⟨⟨none, T0 Pt⟩, H, []⟩ (startD n_law [.ref a]) (match (defBody s_law).getD 0 (.Pass ⟨0, 0, 0, 0⟩) with | .Assign _ (.Call _ es _ _) _ => es | _ => []) fun ds => ds = [.ref a] := wa_cons (w_v 0 rfl (wa_nil rfl))
    refine key _ _ _ E0' _ fun ds vs H1 r j1 hh k => ?_
    subst k
    obtain ⟨v, rfl, hv⟩ := HasL.one' hh
    obtain rfl : v = .ref a := hv
    have nb : ∀ z, ¬ IsB (⟨none, T0 Pt⟩ : Md) z := fun z ⟨c, q⟩ => by cases q
    have hS1 : SqL K H1 a (ns.map V.int) := by
      rcases hS with h | h
      · left
        rcases h with h | ⟨ob, h⟩
        · exact .inl (r.kp _ _ (fun _ z => by cases z) (nb _) h)
        · exact .inr ⟨ob, r.kp _ _ (fun _ z => by cases z) (nb _) h⟩
      · exact .inr h
    show spB K Pt ([.ref a] ++ []) H1 _ E0
    refine ⟨a, ns, rfl, hS1, hl, j1.2, fun b c cs H' hT' hb hc hcs hlc => ?_⟩
    have j2 : J ⟨some (b, c), T0 Pt⟩ H' := ⟨fun b' c' e => by
      have e : some (b, c) = some (b', c') := e
      cases e
      exact ⟨0, 1234567891, 0, cs, hb, by decide, by decide, by decide, by decide, hc, hcs, by omega⟩, hT'⟩
    have kb : KB ⟨some (b, c), T0 Pt⟩ H' 0 := ⟨Int.le_refl _, fun b' c' e => by
      have e : some (b, c) = some (b', c') := e
      cases e
      exact ⟨0, 1234567891, 0, hb, Int.le_refl _⟩⟩
    have E2 : Est ⟨⟨some (b, c), T0 Pt⟩, H', []⟩ (startD n_law [.ref a]) (fun _ => 0) (L2.start n_law [.ref a]) H' := start_est j2 ⟨_, _, rfl, hasR, rfl⟩
    have E3 := E2.val (i := 1) (d := .ref b) (v := .ref b) hasR
    exact law_rest (cc := c) B U hr11 _ _ _ E3 kb _ ⟨fun n' G A σ H' E' _ k => k.elim, fun n' d v H'' _ _ _ hv k => by
      subst k
      obtain rfl : v = .bl true := hv
      exact q _⟩
end
end FL
end
section
set_option Elab.async false
set_option linter.all false
set_option maxRecDepth 100000
set_option pp.maxSteps 300
/-! All defs together (printed by gendefs.py). -/
namespace FL
open PySem PySem.Spec PyProof.Rows L2 FM
section
variable {P : Program} {w : World} {K : PySem.W.Frag} {mg : Str → Option Value} {base : Heap}
theorem df_mk {h : Heap} {x : Str} {st : Stmt} {ps : List Str} {f : Addr} {oc : Value} {od an : Option Addr} {osl : Array (Option Value)} {kV doc pm cdv ct : Value} (X : K.In h) (G : h.Ns mainGlobals mg) (a : PySem.W.nsIn K mainGlobals x = some (some (.ref f)))
    (l : K.lookup f = some ⟨oc, od, .func (PySem.W.fnOf x x (defArgs st) (defBody st) (defScope st) .none kV doc pm an cdv ct), osl⟩) (c : PySem.W.codeIn K cdv x = true) (k : PySem.W.keepIn K (.ref f) = true)
    (b : ∀ (kV doc pm : Value) (an : Option Addr) (cdv ct : Value) (us : List Value), us.length = ps.length → bindArgs (PySem.W.fnOf x x (defArgs st) (defBody st) (defScope st) .none kV doc pm an cdv ct) ⟨us, []⟩ = pure (ps.zip us)) : Df K mg x st ps :=
  ⟨f, _, fun_mk l c k, PySem.W.mg_of X G a, (fun_mk l c k).binds b⟩
theorem bn_common : ∀ (kV doc pm : Value) (an : Option Addr) (cdv ct : Value) (us : List Value), us.length = (["one", "other"] : List Str).length → bindArgs (PySem.W.fnOf "common" "common" (defArgs s_common) (defBody s_common) (defScope s_common) .none kV doc pm an cdv ct) ⟨us, []⟩ = pure ((["one", "other"] : List Str).zip us) := fun _ _ _ _ _ _ us hl => match us, hl with | [_, _], _ => rfl
theorem bn_reduced : ∀ (kV doc pm : Value) (an : Option Addr) (cdv ct : Value) (us : List Value), us.length = (["n", "d"] : List Str).length → bindArgs (PySem.W.fnOf "reduced" "reduced" (defArgs s_reduced) (defBody s_reduced) (defScope s_reduced) .none kV doc pm an cdv ct) ⟨us, []⟩ = pure ((["n", "d"] : List Str).zip us) := fun _ _ _ _ _ _ us hl => match us, hl with | [_, _], _ => rfl
theorem bn_whole : ∀ (kV doc pm : Value) (an : Option Addr) (cdv ct : Value) (us : List Value), us.length = (["n"] : List Str).length → bindArgs (PySem.W.fnOf "whole" "whole" (defArgs s_whole) (defBody s_whole) (defScope s_whole) .none kV doc pm an cdv ct) ⟨us, []⟩ = pure ((["n"] : List Str).zip us) := fun _ _ _ _ _ _ us hl => match us, hl with | [_], _ => rfl
theorem bn_added : ∀ (kV doc pm : Value) (an : Option Addr) (cdv ct : Value) (us : List Value), us.length = (["one", "other"] : List Str).length → bindArgs (PySem.W.fnOf "added" "added" (defArgs s_added) (defBody s_added) (defScope s_added) .none kV doc pm an cdv ct) ⟨us, []⟩ = pure ((["one", "other"] : List Str).zip us) := fun _ _ _ _ _ _ us hl => match us, hl with | [_, _], _ => rfl
theorem bn_times : ∀ (kV doc pm : Value) (an : Option Addr) (cdv ct : Value) (us : List Value), us.length = (["one", "other"] : List Str).length → bindArgs (PySem.W.fnOf "times" "times" (defArgs s_times) (defBody s_times) (defScope s_times) .none kV doc pm an cdv ct) ⟨us, []⟩ = pure ((["one", "other"] : List Str).zip us) := fun _ _ _ _ _ _ us hl => match us, hl with | [_, _], _ => rfl
theorem bn_over : ∀ (kV doc pm : Value) (an : Option Addr) (cdv ct : Value) (us : List Value), us.length = (["one", "other"] : List Str).length → bindArgs (PySem.W.fnOf "over" "over" (defArgs s_over) (defBody s_over) (defScope s_over) .none kV doc pm an cdv ct) ⟨us, []⟩ = pure ((["one", "other"] : List Str).zip us) := fun _ _ _ _ _ _ us hl => match us, hl with | [_, _], _ => rfl
theorem bn_compared : ∀ (kV doc pm : Value) (an : Option Addr) (cdv ct : Value) (us : List Value), us.length = (["one", "other"] : List Str).length → bindArgs (PySem.W.fnOf "compared" "compared" (defArgs s_compared) (defBody s_compared) (defScope s_compared) .none kV doc pm an cdv ct) ⟨us, []⟩ = pure ((["one", "other"] : List Str).zip us) := fun _ _ _ _ _ _ us hl => match us, hl with | [_, _], _ => rfl
theorem bn_least_of : ∀ (kV doc pm : Value) (an : Option Addr) (cdv ct : Value) (us : List Value), us.length = (["some"] : List Str).length → bindArgs (PySem.W.fnOf "least_of" "least_of" (defArgs s_least_of) (defBody s_least_of) (defScope s_least_of) .none kV doc pm an cdv ct) ⟨us, []⟩ = pure ((["some"] : List Str).zip us) := fun _ _ _ _ _ _ us hl => match us, hl with | [_], _ => rfl
theorem bn_floor_of : ∀ (kV doc pm : Value) (an : Option Addr) (cdv ct : Value) (us : List Value), us.length = (["one"] : List Str).length → bindArgs (PySem.W.fnOf "floor_of" "floor_of" (defArgs s_floor_of) (defBody s_floor_of) (defScope s_floor_of) .none kV doc pm an cdv ct) ⟨us, []⟩ = pure ((["one"] : List Str).zip us) := fun _ _ _ _ _ _ us hl => match us, hl with | [_], _ => rfl
theorem bn_law_common : ∀ (kV doc pm : Value) (an : Option Addr) (cdv ct : Value) (us : List Value), us.length = (["_law_one", "_law_other"] : List Str).length → bindArgs (PySem.W.fnOf "_law_common" "_law_common" (defArgs s_law_common) (defBody s_law_common) (defScope s_law_common) .none kV doc pm an cdv ct) ⟨us, []⟩ = pure ((["_law_one", "_law_other"] : List Str).zip us) := fun _ _ _ _ _ _ us hl => match us, hl with | [_, _], _ => rfl
theorem bn_law_part : ∀ (kV doc pm : Value) (an : Option Addr) (cdv ct : Value) (us : List Value), us.length = (["_law_n", "_law_d"] : List Str).length → bindArgs (PySem.W.fnOf "_law_part" "_law_part" (defArgs s_law_part) (defBody s_law_part) (defScope s_law_part) .none kV doc pm an cdv ct) ⟨us, []⟩ = pure ((["_law_n", "_law_d"] : List Str).zip us) := fun _ _ _ _ _ _ us hl => match us, hl with | [_, _], _ => rfl
theorem bn_law_add : ∀ (kV doc pm : Value) (an : Option Addr) (cdv ct : Value) (us : List Value), us.length = (["_law_one", "_law_other"] : List Str).length → bindArgs (PySem.W.fnOf "_law_add" "_law_add" (defArgs s_law_add) (defBody s_law_add) (defScope s_law_add) .none kV doc pm an cdv ct) ⟨us, []⟩ = pure ((["_law_one", "_law_other"] : List Str).zip us) := fun _ _ _ _ _ _ us hl => match us, hl with | [_, _], _ => rfl
theorem bn_law_less : ∀ (kV doc pm : Value) (an : Option Addr) (cdv ct : Value) (us : List Value), us.length = (["_law_one", "_law_other"] : List Str).length → bindArgs (PySem.W.fnOf "_law_less" "_law_less" (defArgs s_law_less) (defBody s_law_less) (defScope s_law_less) .none kV doc pm an cdv ct) ⟨us, []⟩ = pure ((["_law_one", "_law_other"] : List Str).zip us) := fun _ _ _ _ _ _ us hl => match us, hl with | [_, _], _ => rfl
theorem bn_law_many : ∀ (kV doc pm : Value) (an : Option Addr) (cdv ct : Value) (us : List Value), us.length = (["_law_one", "_law_many_here"] : List Str).length → bindArgs (PySem.W.fnOf "_law_many" "_law_many" (defArgs s_law_many) (defBody s_law_many) (defScope s_law_many) .none kV doc pm an cdv ct) ⟨us, []⟩ = pure ((["_law_one", "_law_many_here"] : List Str).zip us) := fun _ _ _ _ _ _ us hl => match us, hl with | [_, _], _ => rfl
theorem bn_law_is_below : ∀ (kV doc pm : Value) (an : Option Addr) (cdv ct : Value) (us : List Value), us.length = (["_law_one", "_law_other"] : List Str).length → bindArgs (PySem.W.fnOf "_law_is_below" "_law_is_below" (defArgs s_law_is_below) (defBody s_law_is_below) (defScope s_law_is_below) .none kV doc pm an cdv ct) ⟨us, []⟩ = pure ((["_law_one", "_law_other"] : List Str).zip us) := fun _ _ _ _ _ _ us hl => match us, hl with | [_, _], _ => rfl
theorem bn_phi : ∀ (kV doc pm : Value) (an : Option Addr) (cdv ct : Value) (us : List Value), us.length = (["bounds", "t"] : List Str).length → bindArgs (PySem.W.fnOf "phi" "phi" (defArgs s_phi) (defBody s_phi) (defScope s_phi) .none kV doc pm an cdv ct) ⟨us, []⟩ = pure ((["bounds", "t"] : List Str).zip us) := fun _ _ _ _ _ _ us hl => match us, hl with | [_, _], _ => rfl
theorem bn_law_phi : ∀ (kV doc pm : Value) (an : Option Addr) (cdv ct : Value) (us : List Value), us.length = (["_law_bounds", "_law_t"] : List Str).length → bindArgs (PySem.W.fnOf "_law_phi" "_law_phi" (defArgs s_law_phi) (defBody s_law_phi) (defScope s_law_phi) .none kV doc pm an cdv ct) ⟨us, []⟩ = pure ((["_law_bounds", "_law_t"] : List Str).zip us) := fun _ _ _ _ _ _ us hl => match us, hl with | [_, _], _ => rfl
theorem bn_can_be_sum : ∀ (kV doc pm : Value) (an : Option Addr) (cdv ct : Value) (us : List Value), us.length = (["bounds", "cells"] : List Str).length → bindArgs (PySem.W.fnOf "can_be_sum" "can_be_sum" (defArgs s_can_be_sum) (defBody s_can_be_sum) (defScope s_can_be_sum) .none kV doc pm an cdv ct) ⟨us, []⟩ = pure ((["bounds", "cells"] : List Str).zip us) := fun _ _ _ _ _ _ us hl => match us, hl with | [_, _], _ => rfl
theorem bn_first_that : ∀ (kV doc pm : Value) (an : Option Addr) (cdv ct : Value) (us : List Value), us.length = (["tells"] : List Str).length → bindArgs (PySem.W.fnOf "first_that" "first_that" (defArgs s_first_that) (defBody s_first_that) (defScope s_first_that) .none kV doc pm an cdv ct) ⟨us, []⟩ = pure ((["tells"] : List Str).zip us) := fun _ _ _ _ _ _ us hl => match us, hl with | [_], _ => rfl
theorem bn_leaps : ∀ (kV doc pm : Value) (an : Option Addr) (cdv ct : Value) (us : List Value), us.length = (["bounds"] : List Str).length → bindArgs (PySem.W.fnOf "leaps" "leaps" (defArgs s_leaps) (defBody s_leaps) (defScope s_leaps) .none kV doc pm an cdv ct) ⟨us, []⟩ = pure ((["bounds"] : List Str).zip us) := fun _ _ _ _ _ _ us hl => match us, hl with | [_], _ => rfl
theorem bn_worst : ∀ (kV doc pm : Value) (an : Option Addr) (cdv ct : Value) (us : List Value), us.length = (["bounds"] : List Str).length → bindArgs (PySem.W.fnOf "worst" "worst" (defArgs s_worst) (defBody s_worst) (defScope s_worst) .none kV doc pm an cdv ct) ⟨us, []⟩ = pure ((["bounds"] : List Str).zip us) := fun _ _ _ _ _ _ us hl => match us, hl with | [_], _ => rfl
theorem bn_pull : ∀ (kV doc pm : Value) (an : Option Addr) (cdv ct : Value) (us : List Value), us.length = (["bounds"] : List Str).length → bindArgs (PySem.W.fnOf "pull" "pull" (defArgs s_pull) (defBody s_pull) (defScope s_pull) .none kV doc pm an cdv ct) ⟨us, []⟩ = pure ((["bounds"] : List Str).zip us) := fun _ _ _ _ _ _ us hl => match us, hl with | [_], _ => rfl
theorem bn_needed : ∀ (kV doc pm : Value) (an : Option Addr) (cdv ct : Value) (us : List Value), us.length = (["bounds", "run"] : List Str).length → bindArgs (PySem.W.fnOf "needed" "needed" (defArgs s_needed) (defBody s_needed) (defScope s_needed) .none kV doc pm an cdv ct) ⟨us, []⟩ = pure ((["bounds", "run"] : List Str).zip us) := fun _ _ _ _ _ _ us hl => match us, hl with | [_, _], _ => rfl
theorem bn_least_cell : ∀ (kV doc pm : Value) (an : Option Addr) (cdv ct : Value) (us : List Value), us.length = (["drift", "shift", "lo", "most", "lead"] : List Str).length → bindArgs (PySem.W.fnOf "least_cell" "least_cell" (defArgs s_least_cell) (defBody s_least_cell) (defScope s_least_cell) .none kV doc pm an cdv ct) ⟨us, []⟩ = pure ((["drift", "shift", "lo", "most", "lead"] : List Str).zip us) := fun _ _ _ _ _ _ us hl => match us, hl with | [_, _, _, _, _], _ => rfl
theorem bn_law_turn : ∀ (kV doc pm : Value) (an : Option Addr) (cdv ct : Value) (us : List Value), us.length = (["_law_bounds"] : List Str).length → bindArgs (PySem.W.fnOf "_law_turn" "_law_turn" (defArgs s_law_turn) (defBody s_law_turn) (defScope s_law_turn) .none kV doc pm an cdv ct) ⟨us, []⟩ = pure ((["_law_bounds"] : List Str).zip us) := fun _ _ _ _ _ _ us hl => match us, hl with | [_], _ => rfl
theorem bn_law_lead_strain : ∀ (kV doc pm : Value) (an : Option Addr) (cdv ct : Value) (us : List Value), us.length = (["_law_bounds", "_law_cells_here", "_law_least"] : List Str).length → bindArgs (PySem.W.fnOf "_law_lead_strain" "_law_lead_strain" (defArgs s_law_lead_strain) (defBody s_law_lead_strain) (defScope s_law_lead_strain) .none kV doc pm an cdv ct) ⟨us, []⟩ = pure ((["_law_bounds", "_law_cells_here", "_law_least"] : List Str).zip us) := fun _ _ _ _ _ _ us hl => match us, hl with | [_, _, _], _ => rfl
theorem bn_law_pull : ∀ (kV doc pm : Value) (an : Option Addr) (cdv ct : Value) (us : List Value), us.length = (["_law_bounds"] : List Str).length → bindArgs (PySem.W.fnOf "_law_pull" "_law_pull" (defArgs s_law_pull) (defBody s_law_pull) (defScope s_law_pull) .none kV doc pm an cdv ct) ⟨us, []⟩ = pure ((["_law_bounds"] : List Str).zip us) := fun _ _ _ _ _ _ us hl => match us, hl with | [_], _ => rfl
theorem bn_law_needed : ∀ (kV doc pm : Value) (an : Option Addr) (cdv ct : Value) (us : List Value), us.length = (["_law_bounds", "_law_run", "_law_most"] : List Str).length → bindArgs (PySem.W.fnOf "_law_needed" "_law_needed" (defArgs s_law_needed) (defBody s_law_needed) (defScope s_law_needed) .none kV doc pm an cdv ct) ⟨us, []⟩ = pure ((["_law_bounds", "_law_run", "_law_most"] : List Str).zip us) := fun _ _ _ _ _ _ us hl => match us, hl with | [_, _, _], _ => rfl
theorem bn_law_margin : ∀ (kV doc pm : Value) (an : Option Addr) (cdv ct : Value) (us : List Value), us.length = (["_law_bounds", "_law_cells_here", "_law_run"] : List Str).length → bindArgs (PySem.W.fnOf "_law_margin" "_law_margin" (defArgs s_law_margin) (defBody s_law_margin) (defScope s_law_margin) .none kV doc pm an cdv ct) ⟨us, []⟩ = pure ((["_law_bounds", "_law_cells_here", "_law_run"] : List Str).zip us) := fun _ _ _ _ _ _ us hl => match us, hl with | [_, _, _], _ => rfl
theorem bn_law_is_sure : ∀ (kV doc pm : Value) (an : Option Addr) (cdv ct : Value) (us : List Value), us.length = (["_law_bounds"] : List Str).length → bindArgs (PySem.W.fnOf "_law_is_sure" "_law_is_sure" (defArgs s_law_is_sure) (defBody s_law_is_sure) (defScope s_law_is_sure) .none kV doc pm an cdv ct) ⟨us, []⟩ = pure ((["_law_bounds"] : List Str).zip us) := fun _ _ _ _ _ _ us hl => match us, hl with | [_], _ => rfl
theorem bn_law_sums : ∀ (kV doc pm : Value) (an : Option Addr) (cdv ct : Value) (us : List Value), us.length = (["_law_telling_here"] : List Str).length → bindArgs (PySem.W.fnOf "_law_sums" "_law_sums" (defArgs s_law_sums) (defBody s_law_sums) (defScope s_law_sums) .none kV doc pm an cdv ct) ⟨us, []⟩ = pure ((["_law_telling_here"] : List Str).zip us) := fun _ _ _ _ _ _ us hl => match us, hl with | [_], _ => rfl
theorem bn_law_cells : ∀ (kV doc pm : Value) (an : Option Addr) (cdv ct : Value) (us : List Value), us.length = (["_law_row_here"] : List Str).length → bindArgs (PySem.W.fnOf "_law_cells" "_law_cells" (defArgs s_law_cells) (defBody s_law_cells) (defScope s_law_cells) .none kV doc pm an cdv ct) ⟨us, []⟩ = pure ((["_law_row_here"] : List Str).zip us) := fun _ _ _ _ _ _ us hl => match us, hl with | [_], _ => rfl
theorem bn_law_in_order : ∀ (kV doc pm : Value) (an : Option Addr) (cdv ct : Value) (us : List Value), us.length = (["_law_some_here"] : List Str).length → bindArgs (PySem.W.fnOf "_law_in_order" "_law_in_order" (defArgs s_law_in_order) (defBody s_law_in_order) (defScope s_law_in_order) .none kV doc pm an cdv ct) ⟨us, []⟩ = pure ((["_law_some_here"] : List Str).zip us) := fun _ _ _ _ _ _ us hl => match us, hl with | [_], _ => rfl
theorem bn_law_hearing : ∀ (kV doc pm : Value) (an : Option Addr) (cdv ct : Value) (us : List Value), us.length = (["_law_telling_here", "_law_row_here", "_law_shifts_here"] : List Str).length → bindArgs (PySem.W.fnOf "_law_hearing" "_law_hearing" (defArgs s_law_hearing) (defBody s_law_hearing) (defScope s_law_hearing) .none kV doc pm an cdv ct) ⟨us, []⟩ = pure ((["_law_telling_here", "_law_row_here", "_law_shifts_here"] : List Str).zip us) := fun _ _ _ _ _ _ us hl => match us, hl with | [_, _, _], _ => rfl
theorem bn_law_turns : ∀ (kV doc pm : Value) (an : Option Addr) (cdv ct : Value) (us : List Value), us.length = (["_law_one", "_law_two", "_law_three"] : List Str).length → bindArgs (PySem.W.fnOf "_law_turns" "_law_turns" (defArgs s_law_turns) (defBody s_law_turns) (defScope s_law_turns) .none kV doc pm an cdv ct) ⟨us, []⟩ = pure ((["_law_one", "_law_two", "_law_three"] : List Str).zip us) := fun _ _ _ _ _ _ us hl => match us, hl with | [_, _, _], _ => rfl
theorem bn_law_plain_shape : ∀ (kV doc pm : Value) (an : Option Addr) (cdv ct : Value) (us : List Value), us.length = (["_law_many_here", "_law_points"] : List Str).length → bindArgs (PySem.W.fnOf "_law_plain_shape" "_law_plain_shape" (defArgs s_law_plain_shape) (defBody s_law_plain_shape) (defScope s_law_plain_shape) .none kV doc pm an cdv ct) ⟨us, []⟩ = pure ((["_law_many_here", "_law_points"] : List Str).zip us) := fun _ _ _ _ _ _ us hl => match us, hl with | [_, _], _ => rfl
theorem bn_law_cut : ∀ (kV doc pm : Value) (an : Option Addr) (cdv ct : Value) (us : List Value), us.length = (["_law_shape", "_law_place", "_law_bound", "_law_sign"] : List Str).length → bindArgs (PySem.W.fnOf "_law_cut" "_law_cut" (defArgs s_law_cut) (defBody s_law_cut) (defScope s_law_cut) .none kV doc pm an cdv ct) ⟨us, []⟩ = pure ((["_law_shape", "_law_place", "_law_bound", "_law_sign"] : List Str).zip us) := fun _ _ _ _ _ _ us hl => match us, hl with | [_, _, _, _], _ => rfl
theorem bn_law_led_on : ∀ (kV doc pm : Value) (an : Option Addr) (cdv ct : Value) (us : List Value), us.length = (["_law_bounds", "_law_shape"] : List Str).length → bindArgs (PySem.W.fnOf "_law_led_on" "_law_led_on" (defArgs s_law_led_on) (defBody s_law_led_on) (defScope s_law_led_on) .none kV doc pm an cdv ct) ⟨us, []⟩ = pure ((["_law_bounds", "_law_shape"] : List Str).zip us) := fun _ _ _ _ _ _ us hl => match us, hl with | [_, _], _ => rfl
theorem bn_law_begun : ∀ (kV doc pm : Value) (an : Option Addr) (cdv ct : Value) (us : List Value), us.length = (["_law_bounds", "_law_first", "_law_moment"] : List Str).length → bindArgs (PySem.W.fnOf "_law_begun" "_law_begun" (defArgs s_law_begun) (defBody s_law_begun) (defScope s_law_begun) .none kV doc pm an cdv ct) ⟨us, []⟩ = pure ((["_law_bounds", "_law_first", "_law_moment"] : List Str).zip us) := fun _ _ _ _ _ _ us hl => match us, hl with | [_, _, _], _ => rfl
theorem bn_law_behind : ∀ (kV doc pm : Value) (an : Option Addr) (cdv ct : Value) (us : List Value), us.length = (["_law_bounds", "_law_shape", "_law_first", "_law_run", "_law_moment"] : List Str).length → bindArgs (PySem.W.fnOf "_law_behind" "_law_behind" (defArgs s_law_behind) (defBody s_law_behind) (defScope s_law_behind) .none kV doc pm an cdv ct) ⟨us, []⟩ = pure ((["_law_bounds", "_law_shape", "_law_first", "_law_run", "_law_moment"] : List Str).zip us) := fun _ _ _ _ _ _ us hl => match us, hl with | [_, _, _, _, _], _ => rfl
theorem bn_law_hull : ∀ (kV doc pm : Value) (an : Option Addr) (cdv ct : Value) (us : List Value), us.length = (["_law_points"] : List Str).length → bindArgs (PySem.W.fnOf "_law_hull" "_law_hull" (defArgs s_law_hull) (defBody s_law_hull) (defScope s_law_hull) .none kV doc pm an cdv ct) ⟨us, []⟩ = pure ((["_law_points"] : List Str).zip us) := fun _ _ _ _ _ _ us hl => match us, hl with | [_], _ => rfl
theorem bn_law_take : ∀ (kV doc pm : Value) (an : Option Addr) (cdv ct : Value) (us : List Value), us.length = (["_law_bag_here", "_law_many_here"] : List Str).length → bindArgs (PySem.W.fnOf "_law_take" "_law_take" (defArgs s_law_take) (defBody s_law_take) (defScope s_law_take) .none kV doc pm an cdv ct) ⟨us, []⟩ = pure ((["_law_bag_here", "_law_many_here"] : List Str).zip us) := fun _ _ _ _ _ _ us hl => match us, hl with | [_, _], _ => rfl
theorem bn_law_some : ∀ (kV doc pm : Value) (an : Option Addr) (cdv ct : Value) (us : List Value), us.length = (["_law_bag_here", "_law_things"] : List Str).length → bindArgs (PySem.W.fnOf "_law_some" "_law_some" (defArgs s_law_some) (defBody s_law_some) (defScope s_law_some) .none kV doc pm an cdv ct) ⟨us, []⟩ = pure ((["_law_bag_here", "_law_things"] : List Str).zip us) := fun _ _ _ _ _ _ us hl => match us, hl with | [_, _], _ => rfl
theorem bn_law_fraction : ∀ (kV doc pm : Value) (an : Option Addr) (cdv ct : Value) (us : List Value), us.length = (["_law_bag_here", "_law_wide"] : List Str).length → bindArgs (PySem.W.fnOf "_law_fraction" "_law_fraction" (defArgs s_law_fraction) (defBody s_law_fraction) (defScope s_law_fraction) .none kV doc pm an cdv ct) ⟨us, []⟩ = pure ((["_law_bag_here", "_law_wide"] : List Str).zip us) := fun _ _ _ _ _ _ us hl => match us, hl with | [_, _], _ => rfl
theorem bn_law_shape_of_bounds : ∀ (kV doc pm : Value) (an : Option Addr) (cdv ct : Value) (us : List Value), us.length = (["_law_bag_here", "_law_most"] : List Str).length → bindArgs (PySem.W.fnOf "_law_shape_of_bounds" "_law_shape_of_bounds" (defArgs s_law_shape_of_bounds) (defBody s_law_shape_of_bounds) (defScope s_law_shape_of_bounds) .none kV doc pm an cdv ct) ⟨us, []⟩ = pure ((["_law_bag_here", "_law_most"] : List Str).zip us) := fun _ _ _ _ _ _ us hl => match us, hl with | [_, _], _ => rfl
theorem bn_law_row : ∀ (kV doc pm : Value) (an : Option Addr) (cdv ct : Value) (us : List Value), us.length = (["_law_bag_here", "_law_bounds", "_law_runs"] : List Str).length → bindArgs (PySem.W.fnOf "_law_row" "_law_row" (defArgs s_law_row) (defBody s_law_row) (defScope s_law_row) .none kV doc pm an cdv ct) ⟨us, []⟩ = pure ((["_law_bag_here", "_law_bounds", "_law_runs"] : List Str).zip us) := fun _ _ _ _ _ _ us hl => match us, hl with | [_, _, _], _ => rfl
theorem bn_law_ride : ∀ (kV doc pm : Value) (an : Option Addr) (cdv ct : Value) (us : List Value), us.length = (["_law_bag_here", "_law_bounds", "_law_cells_here"] : List Str).length → bindArgs (PySem.W.fnOf "_law_ride" "_law_ride" (defArgs s_law_ride) (defBody s_law_ride) (defScope s_law_ride) .none kV doc pm an cdv ct) ⟨us, []⟩ = pure ((["_law_bag_here", "_law_bounds", "_law_cells_here"] : List Str).zip us) := fun _ _ _ _ _ _ us hl => match us, hl with | [_, _, _], _ => rfl
theorem bn_law_telling : ∀ (kV doc pm : Value) (an : Option Addr) (cdv ct : Value) (us : List Value), us.length = (["_law_bag_here", "_law_bounds", "_law_cells_here"] : List Str).length → bindArgs (PySem.W.fnOf "_law_telling" "_law_telling" (defArgs s_law_telling) (defBody s_law_telling) (defScope s_law_telling) .none kV doc pm an cdv ct) ⟨us, []⟩ = pure ((["_law_bag_here", "_law_bounds", "_law_cells_here"] : List Str).zip us) := fun _ _ _ _ _ _ us hl => match us, hl with | [_, _, _], _ => rfl
theorem bn_law_shifts : ∀ (kV doc pm : Value) (an : Option Addr) (cdv ct : Value) (us : List Value), us.length = (["_law_bag_here", "_law_bounds", "_law_marks"] : List Str).length → bindArgs (PySem.W.fnOf "_law_shifts" "_law_shifts" (defArgs s_law_shifts) (defBody s_law_shifts) (defScope s_law_shifts) .none kV doc pm an cdv ct) ⟨us, []⟩ = pure ((["_law_bag_here", "_law_bounds", "_law_marks"] : List Str).zip us) := fun _ _ _ _ _ _ us hl => match us, hl with | [_, _, _], _ => rfl
theorem bn_law_lead : ∀ (kV doc pm : Value) (an : Option Addr) (cdv ct : Value) (us : List Value), us.length = (["_law_bounds"] : List Str).length → bindArgs (PySem.W.fnOf "_law_lead" "_law_lead" (defArgs s_law_lead) (defBody s_law_lead) (defScope s_law_lead) .none kV doc pm an cdv ct) ⟨us, []⟩ = pure ((["_law_bounds"] : List Str).zip us) := fun _ _ _ _ _ _ us hl => match us, hl with | [_], _ => rfl
theorem bn_law_bag : ∀ (kV doc pm : Value) (an : Option Addr) (cdv ct : Value) (us : List Value), us.length = (["_law_script"] : List Str).length → bindArgs (PySem.W.fnOf "_law_bag" "_law_bag" (defArgs s_law_bag) (defBody s_law_bag) (defScope s_law_bag) .none kV doc pm an cdv ct) ⟨us, []⟩ = pure ((["_law_script"] : List Str).zip us) := fun _ _ _ _ _ _ us hl => match us, hl with | [_], _ => rfl
theorem bn_turn : ∀ (kV doc pm : Value) (an : Option Addr) (cdv ct : Value) (us : List Value), us.length = (["bounds"] : List Str).length → bindArgs (PySem.W.fnOf "turn" "turn" (defArgs s_turn) (defBody s_turn) (defScope s_turn) .none kV doc pm an cdv ct) ⟨us, []⟩ = pure ((["bounds"] : List Str).zip us) := fun _ _ _ _ _ _ us hl => match us, hl with | [_], _ => rfl
structure Defs (K : PySem.W.Frag) (mg : Str → Option Value) : Prop where
  qcommon : Df K mg "common" s_common ["one", "other"]
  qreduced : Df K mg "reduced" s_reduced ["n", "d"]
  qwhole : Df K mg "whole" s_whole ["n"]
  qadded : Df K mg "added" s_added ["one", "other"]
  qtimes : Df K mg "times" s_times ["one", "other"]
  qover : Df K mg "over" s_over ["one", "other"]
  qcompared : Df K mg "compared" s_compared ["one", "other"]
  qleast_of : Df K mg "least_of" s_least_of ["some"]
  qfloor_of : Df K mg "floor_of" s_floor_of ["one"]
  q_law_common : Df K mg "_law_common" s_law_common ["_law_one", "_law_other"]
  q_law_part : Df K mg "_law_part" s_law_part ["_law_n", "_law_d"]
  q_law_add : Df K mg "_law_add" s_law_add ["_law_one", "_law_other"]
  q_law_less : Df K mg "_law_less" s_law_less ["_law_one", "_law_other"]
  q_law_many : Df K mg "_law_many" s_law_many ["_law_one", "_law_many_here"]
  q_law_is_below : Df K mg "_law_is_below" s_law_is_below ["_law_one", "_law_other"]
  qphi : Df K mg "phi" s_phi ["bounds", "t"]
  q_law_phi : Df K mg "_law_phi" s_law_phi ["_law_bounds", "_law_t"]
  qcan_be_sum : Df K mg "can_be_sum" s_can_be_sum ["bounds", "cells"]
  qfirst_that : Df K mg "first_that" s_first_that ["tells"]
  qleaps : Df K mg "leaps" s_leaps ["bounds"]
  qworst : Df K mg "worst" s_worst ["bounds"]
  qpull : Df K mg "pull" s_pull ["bounds"]
  qneeded : Df K mg "needed" s_needed ["bounds", "run"]
  qleast_cell : Df K mg "least_cell" s_least_cell ["drift", "shift", "lo", "most", "lead"]
  q_law_turn : Df K mg "_law_turn" s_law_turn ["_law_bounds"]
  q_law_lead_strain : Df K mg "_law_lead_strain" s_law_lead_strain ["_law_bounds", "_law_cells_here", "_law_least"]
  q_law_pull : Df K mg "_law_pull" s_law_pull ["_law_bounds"]
  q_law_needed : Df K mg "_law_needed" s_law_needed ["_law_bounds", "_law_run", "_law_most"]
  q_law_margin : Df K mg "_law_margin" s_law_margin ["_law_bounds", "_law_cells_here", "_law_run"]
  q_law_is_sure : Df K mg "_law_is_sure" s_law_is_sure ["_law_bounds"]
  q_law_sums : Df K mg "_law_sums" s_law_sums ["_law_telling_here"]
  q_law_cells : Df K mg "_law_cells" s_law_cells ["_law_row_here"]
  q_law_in_order : Df K mg "_law_in_order" s_law_in_order ["_law_some_here"]
  q_law_hearing : Df K mg "_law_hearing" s_law_hearing ["_law_telling_here", "_law_row_here", "_law_shifts_here"]
  q_law_turns : Df K mg "_law_turns" s_law_turns ["_law_one", "_law_two", "_law_three"]
  q_law_plain_shape : Df K mg "_law_plain_shape" s_law_plain_shape ["_law_many_here", "_law_points"]
  q_law_cut : Df K mg "_law_cut" s_law_cut ["_law_shape", "_law_place", "_law_bound", "_law_sign"]
  q_law_led_on : Df K mg "_law_led_on" s_law_led_on ["_law_bounds", "_law_shape"]
  q_law_begun : Df K mg "_law_begun" s_law_begun ["_law_bounds", "_law_first", "_law_moment"]
  q_law_behind : Df K mg "_law_behind" s_law_behind ["_law_bounds", "_law_shape", "_law_first", "_law_run", "_law_moment"]
  q_law_hull : Df K mg "_law_hull" s_law_hull ["_law_points"]
  q_law_take : Df K mg "_law_take" s_law_take ["_law_bag_here", "_law_many_here"]
  q_law_some : Df K mg "_law_some" s_law_some ["_law_bag_here", "_law_things"]
  q_law_fraction : Df K mg "_law_fraction" s_law_fraction ["_law_bag_here", "_law_wide"]
  q_law_shape_of_bounds : Df K mg "_law_shape_of_bounds" s_law_shape_of_bounds ["_law_bag_here", "_law_most"]
  q_law_row : Df K mg "_law_row" s_law_row ["_law_bag_here", "_law_bounds", "_law_runs"]
  q_law_ride : Df K mg "_law_ride" s_law_ride ["_law_bag_here", "_law_bounds", "_law_cells_here"]
  q_law_telling : Df K mg "_law_telling" s_law_telling ["_law_bag_here", "_law_bounds", "_law_cells_here"]
  q_law_shifts : Df K mg "_law_shifts" s_law_shifts ["_law_bag_here", "_law_bounds", "_law_marks"]
  q_law_lead : Df K mg "_law_lead" s_law_lead ["_law_bounds"]
  q_law_bag : Df K mg "_law_bag" s_law_bag ["_law_script"]
theorem all_subs {c Pt : Addr} (B : Bt mg) (D : Defs K mg) (dT : DfC K mg base "turn" s_turn ["bounds"] c Pt) : Subs P w K mg base Pt ∧ FnB P w K mg base Pt := by
  have gcommon := ok_common (P := P) (w := w) (K := K) (mg := mg) (base := base) B D.qcommon
  have greduced := ok_reduced (P := P) (w := w) (K := K) (mg := mg) (base := base) B D.qreduced gcommon
  have gwhole := ok_whole (P := P) (w := w) (K := K) (mg := mg) (base := base) D.qwhole
  have gadded := ok_added (P := P) (w := w) (K := K) (mg := mg) (base := base) D.qadded greduced
  have gtimes := ok_times (P := P) (w := w) (K := K) (mg := mg) (base := base) D.qtimes greduced
  have gover := ok_over (P := P) (w := w) (K := K) (mg := mg) (base := base) D.qover greduced
  have gcompared := ok_compared (P := P) (w := w) (K := K) (mg := mg) (base := base) B D.qcompared
  have gleast_of := ok_least (P := P) (w := w) (K := K) (mg := mg) (base := base) D.qleast_of gcompared
  have gfloor_of := ok_floor (P := P) (w := w) (K := K) (mg := mg) (base := base) D.qfloor_of
  have g_law_common := ok_lcommon (P := P) (w := w) (K := K) (mg := mg) (base := base) B D.q_law_common
  have g_law_part := ok_part (P := P) (w := w) (K := K) (mg := mg) (base := base) D.q_law_part g_law_common
  have g_law_add := ok_ladd (P := P) (w := w) (K := K) (mg := mg) (base := base) D.q_law_add g_law_part
  have g_law_less := ok_lless (P := P) (w := w) (K := K) (mg := mg) (base := base) D.q_law_less g_law_part
  have g_law_many := ok_lmany (P := P) (w := w) (K := K) (mg := mg) (base := base) D.q_law_many g_law_part
  have g_law_is_below := ok_lbelow (P := P) (w := w) (K := K) (mg := mg) (base := base) D.q_law_is_below
  have gphi := ok_phi (P := P) (w := w) (K := K) (mg := mg) (base := base) D.qphi gadded gtimes gover gwhole
  have g_law_phi := ok_lphi (P := P) (w := w) (K := K) (mg := mg) (base := base) D.q_law_phi g_law_add g_law_part g_law_many
  have gcan_be_sum := ok_cbs (P := P) (w := w) (K := K) (mg := mg) (base := base) D.qcan_be_sum
  have gturn := ok_turn (P := P) (w := w) (K := K) (mg := mg) (base := base) dT D.qfirst_that gwhole gtimes gcompared
  have gleaps := ok_leaps (P := P) (w := w) (K := K) (mg := mg) (base := base) B D.qleaps gturn gphi gcan_be_sum gleast_of
  have gworst := ok_worst (P := P) (w := w) (K := K) (mg := mg) (base := base) B D.qworst gturn gphi gleaps gcompared
  have gpull := ok_pull (P := P) (w := w) (K := K) (mg := mg) (base := base) D.qpull gworst
  have gneeded := ok_needed (P := P) (w := w) (K := K) (mg := mg) (base := base) D.qneeded gpull gwhole gtimes gadded
  have gleast_cell := ok_leastc (P := P) (w := w) (K := K) (mg := mg) (base := base) D.qleast_cell gneeded gfloor_of
  have g_law_turn := ok_lturn (P := P) (w := w) (K := K) (mg := mg) (base := base) D.q_law_turn
  have g_law_lead_strain := ok_lead (P := P) (w := w) (K := K) (mg := mg) (base := base) B D.q_law_lead_strain g_law_phi g_law_is_below
  have g_law_pull := ok_lpull (P := P) (w := w) (K := K) (mg := mg) (base := base) B D.q_law_pull g_law_turn g_law_phi g_law_is_below g_law_lead_strain
  have g_law_needed := ok_lneeded (P := P) (w := w) (K := K) (mg := mg) (base := base) D.q_law_needed g_law_add g_law_many
  have g_law_margin := ok_margin (P := P) (w := w) (K := K) (mg := mg) (base := base) D.q_law_margin g_law_less g_law_needed g_law_pull
  have g_law_is_sure := ok_sure (P := P) (w := w) (K := K) (mg := mg) (base := base) D.q_law_is_sure g_law_margin
  have g_law_sums := ok_sums (P := P) (w := w) (K := K) (mg := mg) (base := base) D.q_law_sums g_law_add
  have g_law_cells := ok_cells (P := P) (w := w) (K := K) (mg := mg) (base := base) D.q_law_cells
  have g_law_in_order := ok_order (P := P) (w := w) (K := K) (mg := mg) (base := base) B D.q_law_in_order g_law_is_below
  have g_law_hearing := ok_hearing (P := P) (w := w) (K := K) (mg := mg) (base := base) B D.q_law_hearing g_law_sums g_law_cells g_law_in_order g_law_add
  have g_law_turns := ok_turns (P := P) (w := w) (K := K) (mg := mg) (base := base) D.q_law_turns
  have g_law_hull := ok_hull (P := P) (w := w) (K := K) (mg := mg) (base := base) B D.q_law_hull g_law_turns
  have g_law_take := ok_take (P := P) (w := w) (K := K) (mg := mg) (base := base) B D.q_law_take
  have g_law_some := ok_some (P := P) (w := w) (K := K) (mg := mg) (base := base) B D.q_law_some g_law_take
  have g_law_fraction := ok_frac (P := P) (w := w) (K := K) (mg := mg) (base := base) B D.q_law_fraction g_law_take g_law_some g_law_part
  have g_law_shape_of_bounds := ok_shape (P := P) (w := w) (K := K) (mg := mg) (base := base) B D.q_law_shape_of_bounds g_law_take g_law_some g_law_fraction
  have g_law_row := ok_row (P := P) (w := w) (K := K) (mg := mg) (base := base) B D.q_law_row g_law_take
  have g_law_ride := ok_ride (P := P) (w := w) (K := K) (mg := mg) (base := base) B D.q_law_ride g_law_take g_law_some g_law_part g_law_many g_law_add g_law_is_below
  have g_law_telling := ok_telling (P := P) (w := w) (K := K) (mg := mg) (base := base) B D.q_law_telling g_law_some g_law_ride
  have g_law_shifts := ok_shifts (P := P) (w := w) (K := K) (mg := mg) (base := base) B D.q_law_shifts g_law_some g_law_part g_law_many
  have g_law_lead := ok_llead (P := P) (w := w) (K := K) (mg := mg) (base := base) D.q_law_lead
  have gBAG := ok_bag (P := P) (w := w) (K := K) (mg := mg) (base := base) (Pt := Pt) B D.q_law_bag
  have g_law_plain_shape := ok_plain (kh := 1) (P := P) (w := w) (K := K) (mg := mg) (base := base) D.q_law_plain_shape g_law_common g_law_hull
  have g_law_cut := ok_cut (P := P) (w := w) (K := K) (mg := mg) (base := base) B D.q_law_cut g_law_plain_shape
  have g_law_led_on := ok_led (P := P) (w := w) (K := K) (mg := mg) (base := base) (by decide) D.q_law_led_on g_law_hull g_law_cut
  have g_law_begun := ok_beg (kp := 0) (P := P) (w := w) (K := K) (mg := mg) (base := base) D.q_law_begun g_law_less g_law_add g_law_many g_law_is_below g_law_plain_shape
  have g_law_behind := ok_behind (k := 5) (P := P) (w := w) (K := K) (mg := mg) (base := base) (by decide) (by decide) (by decide) (by decide) B D.q_law_behind g_law_begun g_law_led_on g_law_cut g_law_less g_law_add
  exact ⟨⟨g_law_shape_of_bounds, gleast_cell, g_law_some, g_law_is_sure, g_law_lead, g_law_row, g_law_take, g_law_hearing, g_law_telling, g_law_shifts, g_law_behind⟩, gBAG⟩
/-- the law's own promise, by what the top has left -/
theorem all_mk {l : PySem.W.OpenLaw} {h : Heap} {fa f c Pt fT : Addr} (X : K.In h) (G : h.Ns mainGlobals mg) (hfa : mg "law" = some (.ref fa)) (B : Bt mg) (D : Defs K mg)
    {od1 an1 od2 an2 : Option Addr} {sl1 sl2 : Array (Option Value)} {oc1 kV1 dc1 pm1 cd1 ct1 oc2 kV2 dc2 pm2 ct2 : Value}
    (a1 : PySem.W.nsIn K mainGlobals "law" = some (some (.ref f))) (l1 : K.lookup f = some ⟨oc1, od1, .func (PySem.W.fnOf "law" "law" (defArgs s_law) (defBody s_law) (defScope s_law) .none kV1 dc1 pm1 an1 cd1 ct1), sl1⟩) (c1 : PySem.W.codeIn K cd1 "law" = true) (k1 : PySem.W.keepIn K (.ref f) = true)
    (a2 : PySem.W.nsIn K mainGlobals "turn" = some (some (.ref fT))) (l2 : K.lookup fT = some ⟨oc2, od2, .func (PySem.W.fnOf "turn" "turn" (defArgs s_turn) (defBody s_turn) (defScope s_turn) .none kV2 dc2 pm2 an2 (.ref c) ct2), sl2⟩) (c2 : PySem.W.codeIn K (.ref c) "turn" = true) (k2 : PySem.W.keepIn K (.ref fT) = true)
    (hP : h.get? Pt = some { cls := .none, data := .fields #[] }) (nP : K.lookup Pt = none) (hc : PySem.W.codeHdIn K c Pt = true) : LamX.LawAtS l w K CX0 12 63 "_law_script" mg fa h := by
  have e := hfa.symm.trans (PySem.W.mg_of X G a1)
  cases e
  have F1 := fun_mk (st := s_law) l1 c1 k1
  refine ⟨PySem.W.fnOf "law" "law" (defArgs s_law) (defBody s_law) (defScope s_law) .none kV1 dc1 pm1 an1 cd1 ct1, [(c, Pt)], spL K Pt, fun p hp => ?_, fun p hp => ?_, fun p hp => ?_, fun s v => .of_eq rfl, fun H a ns hl _ ht hS => ?_, fun base Xb Gb hT => ?_⟩
  · obtain rfl := List.mem_singleton.mp hp
    exact hP
  · obtain rfl := List.mem_singleton.mp hp
    exact nP
  · obtain rfl := List.mem_singleton.mp hp
    exact PySem.W.codeHd_of_K X hc
  · refine ⟨a, ns, rfl, hS, hl, fun p hp => ?_, fun _ => rfl⟩
    obtain rfl := List.mem_singleton.mp hp
    exact LamX.TabS.nil (ht _ (List.mem_singleton.mpr rfl))
  · have dT : DfC K mg base "turn" s_turn ["bounds"] c Pt := ⟨⟨fT, _, _, _, _, _, _, _, _, l2, c2, k2, PySem.W.mg_of X G a2, (fun_mk (st := s_turn) l2 c2 k2).binds bn_turn⟩, hT _ (List.mem_singleton.mpr rfl)⟩
    obtain ⟨U, gb⟩ := all_subs (P := l.prog) (w := w) B D dT
    exact ok_law B F1 gb U
end
end FL
end
section
set_option Elab.async false
open PySem PySem.W PyProof.Rows
set_option maxRecDepth 100000 in
set_option maxHeartbeats 0 in
theorem PySem.Challenge.cw_flutterheld_k27_whole_told_at_once_holds : PySem.Challenge.rw_flutterheld_k27_whole_told_at_once.Holds := by
  w_on
  o_law
  k_head
  (case hw => w_witness2)
  k_fill
  refine LamX.walk_ofTs (l := PySem.Challenge.rw_flutterheld_k27_whole_told_at_once) (n := 63) (k := 12) (x := "_law_script") (CX := fun _ => L2.CX0) rfl (by decide) rfl ⟨rfl, by decide, by decide⟩ (fun w h Y => PySem.W.km_in_of Y) ?F (fun _ _ _ _ _ h => h)
  case F =>
    intro w mg fa h Y KX G hmg
    have hT8 := PySem.W.km_tabs_of Y
    refine' FL.all_mk KX G hmg ⟨mg_none_of KX G ?zabs, mg_none_of KX G ?zint, mg_none_of KX G ?zlen, mg_none_of KX G ?zmax, mg_none_of KX G ?zmin, mg_none_of KX G ?zrange, mg_none_of KX G ?zenumerate, mg_none_of KX G ?zzip, mg_none_of KX G ?ztuple, mg_none_of KX G ?zset, mg_none_of KX G ?zsorted, mg_none_of KX G ?zsum⟩ ⟨FL.df_mk KX G ?acommon ?lcommon ?ccommon ?kcommon FL.bn_common, FL.df_mk KX G ?areduced ?lreduced ?creduced ?kreduced FL.bn_reduced, FL.df_mk KX G ?awhole ?lwhole ?cwhole ?kwhole FL.bn_whole, FL.df_mk KX G ?aadded ?ladded ?cadded ?kadded FL.bn_added, FL.df_mk KX G ?atimes ?ltimes ?ctimes ?ktimes FL.bn_times, FL.df_mk KX G ?aover ?lover ?cover ?kover FL.bn_over, FL.df_mk KX G ?acompared ?lcompared ?ccompared ?kcompared FL.bn_compared, FL.df_mk KX G ?aleast_of ?lleast_of ?cleast_of ?kleast_of FL.bn_least_of, FL.df_mk KX G ?afloor_of ?lfloor_of ?cfloor_of ?kfloor_of FL.bn_floor_of, FL.df_mk KX G ?a_law_common ?l_law_common ?c_law_common ?k_law_common FL.bn_law_common, FL.df_mk KX G ?a_law_part ?l_law_part ?c_law_part ?k_law_part FL.bn_law_part, FL.df_mk KX G ?a_law_add ?l_law_add ?c_law_add ?k_law_add FL.bn_law_add, FL.df_mk KX G ?a_law_less ?l_law_less ?c_law_less ?k_law_less FL.bn_law_less, FL.df_mk KX G ?a_law_many ?l_law_many ?c_law_many ?k_law_many FL.bn_law_many, FL.df_mk KX G ?a_law_is_below ?l_law_is_below ?c_law_is_below ?k_law_is_below FL.bn_law_is_below, FL.df_mk KX G ?aphi ?lphi ?cphi ?kphi FL.bn_phi, FL.df_mk KX G ?a_law_phi ?l_law_phi ?c_law_phi ?k_law_phi FL.bn_law_phi, FL.df_mk KX G ?acan_be_sum ?lcan_be_sum ?ccan_be_sum ?kcan_be_sum FL.bn_can_be_sum, FL.df_mk KX G ?afirst_that ?lfirst_that ?cfirst_that ?kfirst_that FL.bn_first_that, FL.df_mk KX G ?aleaps ?lleaps ?cleaps ?kleaps FL.bn_leaps, FL.df_mk KX G ?aworst ?lworst ?cworst ?kworst FL.bn_worst, FL.df_mk KX G ?apull ?lpull ?cpull ?kpull FL.bn_pull, FL.df_mk KX G ?aneeded ?lneeded ?cneeded ?kneeded FL.bn_needed, FL.df_mk KX G ?aleast_cell ?lleast_cell ?cleast_cell ?kleast_cell FL.bn_least_cell, FL.df_mk KX G ?a_law_turn ?l_law_turn ?c_law_turn ?k_law_turn FL.bn_law_turn, FL.df_mk KX G ?a_law_lead_strain ?l_law_lead_strain ?c_law_lead_strain ?k_law_lead_strain FL.bn_law_lead_strain, FL.df_mk KX G ?a_law_pull ?l_law_pull ?c_law_pull ?k_law_pull FL.bn_law_pull, FL.df_mk KX G ?a_law_needed ?l_law_needed ?c_law_needed ?k_law_needed FL.bn_law_needed, FL.df_mk KX G ?a_law_margin ?l_law_margin ?c_law_margin ?k_law_margin FL.bn_law_margin, FL.df_mk KX G ?a_law_is_sure ?l_law_is_sure ?c_law_is_sure ?k_law_is_sure FL.bn_law_is_sure, FL.df_mk KX G ?a_law_sums ?l_law_sums ?c_law_sums ?k_law_sums FL.bn_law_sums, FL.df_mk KX G ?a_law_cells ?l_law_cells ?c_law_cells ?k_law_cells FL.bn_law_cells, FL.df_mk KX G ?a_law_in_order ?l_law_in_order ?c_law_in_order ?k_law_in_order FL.bn_law_in_order, FL.df_mk KX G ?a_law_hearing ?l_law_hearing ?c_law_hearing ?k_law_hearing FL.bn_law_hearing, FL.df_mk KX G ?a_law_turns ?l_law_turns ?c_law_turns ?k_law_turns FL.bn_law_turns, FL.df_mk KX G ?a_law_plain_shape ?l_law_plain_shape ?c_law_plain_shape ?k_law_plain_shape FL.bn_law_plain_shape, FL.df_mk KX G ?a_law_cut ?l_law_cut ?c_law_cut ?k_law_cut FL.bn_law_cut, FL.df_mk KX G ?a_law_led_on ?l_law_led_on ?c_law_led_on ?k_law_led_on FL.bn_law_led_on, FL.df_mk KX G ?a_law_begun ?l_law_begun ?c_law_begun ?k_law_begun FL.bn_law_begun, FL.df_mk KX G ?a_law_behind ?l_law_behind ?c_law_behind ?k_law_behind FL.bn_law_behind, FL.df_mk KX G ?a_law_hull ?l_law_hull ?c_law_hull ?k_law_hull FL.bn_law_hull, FL.df_mk KX G ?a_law_take ?l_law_take ?c_law_take ?k_law_take FL.bn_law_take, FL.df_mk KX G ?a_law_some ?l_law_some ?c_law_some ?k_law_some FL.bn_law_some, FL.df_mk KX G ?a_law_fraction ?l_law_fraction ?c_law_fraction ?k_law_fraction FL.bn_law_fraction, FL.df_mk KX G ?a_law_shape_of_bounds ?l_law_shape_of_bounds ?c_law_shape_of_bounds ?k_law_shape_of_bounds FL.bn_law_shape_of_bounds, FL.df_mk KX G ?a_law_row ?l_law_row ?c_law_row ?k_law_row FL.bn_law_row, FL.df_mk KX G ?a_law_ride ?l_law_ride ?c_law_ride ?k_law_ride FL.bn_law_ride, FL.df_mk KX G ?a_law_telling ?l_law_telling ?c_law_telling ?k_law_telling FL.bn_law_telling, FL.df_mk KX G ?a_law_shifts ?l_law_shifts ?c_law_shifts ?k_law_shifts FL.bn_law_shifts, FL.df_mk KX G ?a_law_lead ?l_law_lead ?c_law_lead ?k_law_lead FL.bn_law_lead, FL.df_mk KX G ?a_law_bag ?l_law_bag ?c_law_bag ?k_law_bag FL.bn_law_bag⟩ ?aL ?lL ?cL ?kL ?aT ?lT ?cT ?kT (hT8 _ (List.mem_singleton.mpr rfl)) ?nPt ?hcodeT
    (case zabs => k_is)
    (case zint => k_is)
    (case zlen => k_is)
    (case zmax => k_is)
    (case zmin => k_is)
    (case zrange => k_is)
    (case zenumerate => k_is)
    (case zzip => k_is)
    (case ztuple => k_is)
    (case zset => k_is)
    (case zsorted => k_is)
    (case zsum => k_is)
    (case acommon => k_is); (case lcommon => k_is); (case ccommon => k_is); (case kcommon => k_is)
    (case areduced => k_is); (case lreduced => k_is); (case creduced => k_is); (case kreduced => k_is)
    (case awhole => k_is); (case lwhole => k_is); (case cwhole => k_is); (case kwhole => k_is)
    (case aadded => k_is); (case ladded => k_is); (case cadded => k_is); (case kadded => k_is)
    (case atimes => k_is); (case ltimes => k_is); (case ctimes => k_is); (case ktimes => k_is)
    (case aover => k_is); (case lover => k_is); (case cover => k_is); (case kover => k_is)
    (case acompared => k_is); (case lcompared => k_is); (case ccompared => k_is); (case kcompared => k_is)
    (case aleast_of => k_is); (case lleast_of => k_is); (case cleast_of => k_is); (case kleast_of => k_is)
    (case afloor_of => k_is); (case lfloor_of => k_is); (case cfloor_of => k_is); (case kfloor_of => k_is)
    (case a_law_common => k_is); (case l_law_common => k_is); (case c_law_common => k_is); (case k_law_common => k_is)
    (case a_law_part => k_is); (case l_law_part => k_is); (case c_law_part => k_is); (case k_law_part => k_is)
    (case a_law_add => k_is); (case l_law_add => k_is); (case c_law_add => k_is); (case k_law_add => k_is)
    (case a_law_less => k_is); (case l_law_less => k_is); (case c_law_less => k_is); (case k_law_less => k_is)
    (case a_law_many => k_is); (case l_law_many => k_is); (case c_law_many => k_is); (case k_law_many => k_is)
    (case a_law_is_below => k_is); (case l_law_is_below => k_is); (case c_law_is_below => k_is); (case k_law_is_below => k_is)
    (case aphi => k_is); (case lphi => k_is); (case cphi => k_is); (case kphi => k_is)
    (case a_law_phi => k_is); (case l_law_phi => k_is); (case c_law_phi => k_is); (case k_law_phi => k_is)
    (case acan_be_sum => k_is); (case lcan_be_sum => k_is); (case ccan_be_sum => k_is); (case kcan_be_sum => k_is)
    (case afirst_that => k_is); (case lfirst_that => k_is); (case cfirst_that => k_is); (case kfirst_that => k_is)
    (case aleaps => k_is); (case lleaps => k_is); (case cleaps => k_is); (case kleaps => k_is)
    (case aworst => k_is); (case lworst => k_is); (case cworst => k_is); (case kworst => k_is)
    (case apull => k_is); (case lpull => k_is); (case cpull => k_is); (case kpull => k_is)
    (case aneeded => k_is); (case lneeded => k_is); (case cneeded => k_is); (case kneeded => k_is)
    (case aleast_cell => k_is); (case lleast_cell => k_is); (case cleast_cell => k_is); (case kleast_cell => k_is)
    (case a_law_turn => k_is); (case l_law_turn => k_is); (case c_law_turn => k_is); (case k_law_turn => k_is)
    (case a_law_lead_strain => k_is); (case l_law_lead_strain => k_is); (case c_law_lead_strain => k_is); (case k_law_lead_strain => k_is)
    (case a_law_pull => k_is); (case l_law_pull => k_is); (case c_law_pull => k_is); (case k_law_pull => k_is)
    (case a_law_needed => k_is); (case l_law_needed => k_is); (case c_law_needed => k_is); (case k_law_needed => k_is)
    (case a_law_margin => k_is); (case l_law_margin => k_is); (case c_law_margin => k_is); (case k_law_margin => k_is)
    (case a_law_is_sure => k_is); (case l_law_is_sure => k_is); (case c_law_is_sure => k_is); (case k_law_is_sure => k_is)
    (case a_law_sums => k_is); (case l_law_sums => k_is); (case c_law_sums => k_is); (case k_law_sums => k_is)
    (case a_law_cells => k_is); (case l_law_cells => k_is); (case c_law_cells => k_is); (case k_law_cells => k_is)
    (case a_law_in_order => k_is); (case l_law_in_order => k_is); (case c_law_in_order => k_is); (case k_law_in_order => k_is)
    (case a_law_hearing => k_is); (case l_law_hearing => k_is); (case c_law_hearing => k_is); (case k_law_hearing => k_is)
    (case a_law_turns => k_is); (case l_law_turns => k_is); (case c_law_turns => k_is); (case k_law_turns => k_is)
    (case a_law_plain_shape => k_is); (case l_law_plain_shape => k_is); (case c_law_plain_shape => k_is); (case k_law_plain_shape => k_is)
    (case a_law_cut => k_is); (case l_law_cut => k_is); (case c_law_cut => k_is); (case k_law_cut => k_is)
    (case a_law_led_on => k_is); (case l_law_led_on => k_is); (case c_law_led_on => k_is); (case k_law_led_on => k_is)
    (case a_law_begun => k_is); (case l_law_begun => k_is); (case c_law_begun => k_is); (case k_law_begun => k_is)
    (case a_law_behind => k_is); (case l_law_behind => k_is); (case c_law_behind => k_is); (case k_law_behind => k_is)
    (case a_law_hull => k_is); (case l_law_hull => k_is); (case c_law_hull => k_is); (case k_law_hull => k_is)
    (case a_law_take => k_is); (case l_law_take => k_is); (case c_law_take => k_is); (case k_law_take => k_is)
    (case a_law_some => k_is); (case l_law_some => k_is); (case c_law_some => k_is); (case k_law_some => k_is)
    (case a_law_fraction => k_is); (case l_law_fraction => k_is); (case c_law_fraction => k_is); (case k_law_fraction => k_is)
    (case a_law_shape_of_bounds => k_is); (case l_law_shape_of_bounds => k_is); (case c_law_shape_of_bounds => k_is); (case k_law_shape_of_bounds => k_is)
    (case a_law_row => k_is); (case l_law_row => k_is); (case c_law_row => k_is); (case k_law_row => k_is)
    (case a_law_ride => k_is); (case l_law_ride => k_is); (case c_law_ride => k_is); (case k_law_ride => k_is)
    (case a_law_telling => k_is); (case l_law_telling => k_is); (case c_law_telling => k_is); (case k_law_telling => k_is)
    (case a_law_shifts => k_is); (case l_law_shifts => k_is); (case c_law_shifts => k_is); (case k_law_shifts => k_is)
    (case a_law_lead => k_is); (case l_law_lead => k_is); (case c_law_lead => k_is); (case k_law_lead => k_is)
    (case a_law_bag => k_is); (case l_law_bag => k_is); (case c_law_bag => k_is); (case k_law_bag => k_is)
    (case aL => k_is); (case lL => k_is); (case cL => k_is); (case kL => k_is)
    (case aT => k_is); (case lT => k_is); (case cT => k_is); (case kT => k_is)
    (case nPt => kernel_rfl)
    (case hcodeT => kernel_rfl)
end
