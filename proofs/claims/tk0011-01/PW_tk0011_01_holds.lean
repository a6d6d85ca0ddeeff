import PyProof.Rows.All
import Wide.All
import OpenK.AllK
import Wide.FinOn
import PySem.Challenge.RW_tk0011_01
open PySem PySem.W PyProof.Rows
set_option Elab.async false
set_option linter.unusedVariables false
namespace Ded
set_option maxRecDepth 100000
set_option maxHeartbeats 16000000
open_top hd for PySem.Challenge.rw_tk0011_01
section Plain
set_option maxRecDepth 1000

/-- the row of a by b -/
def cf (a b : Nat) : List Int := if h : b = 0 then [] else ((a / b : Nat) : Int) :: cf b (a % b)
termination_by b
decreasing_by exact Nat.mod_lt _ (Nat.pos_of_ne_zero h)

theorem cf_zero (a : Nat) : cf a 0 = [] := by rw [cf]; simp
theorem cf_pos (a b : Nat) (h : 0 < b) : cf a b = ((a / b : Nat) : Int) :: cf b (a % b) := by
  rw [cf]; simp [Nat.ne_of_gt h]

structure Mat where
  p : Int
  q : Int
  p' : Int
  q' : Int

def cm : List Int → Mat
  | [] => ⟨1, 0, 0, 1⟩
  | a :: l => let m := cm l; ⟨a * m.p + m.q, m.p, a * m.p' + m.q', m.p'⟩

def alt : List Int → Int
  | [] => 0
  | a :: l => a - alt l

def sg (n : Nat) : Int := if n % 2 = 0 then 1 else -1
theorem sg_succ (n : Nat) : sg (n + 1) = - sg n := by unfold sg; split <;> split <;> omega

theorem cm_det : ∀ l, (cm l).p * (cm l).q' - (cm l).p' * (cm l).q = sg l.length
  | [] => by simp [cm, sg]
  | a :: l => by
    have := cm_det l
    simp only [cm, List.length_cons, sg_succ]
    grind

theorem cm_cf : ∀ (b a : Nat), 0 < b → Nat.gcd a b = 1 → (cm (cf a b)).p = a ∧ (cm (cf a b)).q = b := by
  intro b
  induction b using Nat.strongRecOn with
  | _ b ih =>
    intro a hb hg
    rw [cf_pos a b hb]
    simp only [cm]
    by_cases h : a % b = 0
    · have hb1 : b = 1 := by
        have := Nat.gcd_rec b a
        rw [h] at this; simp at this
        rw [Nat.gcd_comm] at hg; omega
      subst hb1
      rw [h, cf_zero]; simp [cm]
    · have hp : 0 < a % b := Nat.pos_of_ne_zero h
      have hg' : Nat.gcd b (a % b) = 1 := by
        rw [Nat.gcd_comm, ← Nat.gcd_rec, Nat.gcd_comm]; exact hg
      obtain ⟨h1, h2⟩ := ih (a % b) (Nat.mod_lt _ hb) b hp hg'
      rw [h1, h2]
      refine ⟨?_, rfl⟩
      have := Nat.div_add_mod a b
      have : ((a / b : Nat) : Int) * b + (a % b : Nat) = a := by
        rw [Int.mul_comm]; exact_mod_cast this
      exact this

/-- what is told of a row of h by k -/
def tl (l : List Int) (h k : Int) : Int :=
  if l.length % 2 = 0 then k * (alt l.tail - 3) + h + (cm l).q' else k * alt l.tail + h - (cm l).q'
def T (h k : Nat) : Int := tl (cf h k) h k

theorem T_zero : T 0 1 = 0 := by decide +kernel

theorem cf_lt (h k : Nat) (h1 : h < k) : cf h k = 0 :: cf k h := by
  rw [cf_pos h k (by omega), Nat.div_eq_of_lt h1, Nat.mod_eq_of_lt h1]; rfl

theorem gcd_mod {h k : Nat} (hg : Nat.gcd h k = 1) : Nat.gcd (k % h) h = 1 := by
  rw [← Nat.gcd_rec]; exact hg

theorem recip (h k : Nat) (h0 : 0 < h) (h1 : h < k) (hg : Nat.gcd h k = 1) :
    (h : Int) * T h k + k * T (k % h) h = h * h + k * k + 1 - 3 * h * k := by
  have hm : k % h < h := Nat.mod_lt _ h0
  have e1 : cf h k = 0 :: ((k / h : Nat) : Int) :: cf h (k % h) := by rw [cf_lt h k h1, cf_pos k h h0]
  have e2 : cf (k % h) h = 0 :: cf h (k % h) := cf_lt _ _ hm
  have pq : (cm (cf h (k % h))).p = h ∧ (cm (cf h (k % h))).q = (k % h : Nat) := by
    by_cases hz : k % h = 0
    · have hh : h = 1 := by have := gcd_mod hg; rw [hz] at this; simpa using this
      rw [hz, cf_zero]; subst hh; simp [cm]
    · exact cm_cf _ _ (Nat.pos_of_ne_zero hz) (by rw [Nat.gcd_comm]; exact gcd_mod hg)
  have hd := cm_det (cf h (k % h))
  have hk : ((k / h : Nat) : Int) * h + (k % h : Nat) = k := by
    have := Nat.div_add_mod k h
    rw [Int.mul_comm]; exact_mod_cast this
  unfold T
  rw [e1, e2]
  unfold tl
  generalize cf h (k % h) = t at *
  generalize (k / h : Nat) = a at *
  generalize hr : ((k % h : Nat) : Int) = r at *
  simp only [List.length_cons, List.tail_cons, cm, alt]
  obtain ⟨hp, hq⟩ := pq
  generalize cm t = m at *
  obtain ⟨p, q, p', q'⟩ := m
  simp only at *
  subst hp hq
  by_cases hpar : t.length % 2 = 0
  · have : ¬ ((t.length + 1) % 2 = 0) := by omega
    have h3 : (t.length + 1 + 1) % 2 = 0 := by omega
    rw [if_pos h3, if_neg this]
    have : sg t.length = 1 := by unfold sg; rw [if_pos hpar]
    rw [this] at hd
    grind
  · have : ((t.length + 1) % 2 = 0) := by omega
    have h3 : ¬ (t.length + 1 + 1) % 2 = 0 := by omega
    rw [if_neg h3, if_pos this]
    have : sg t.length = -1 := by unfold sg; rw [if_neg hpar]
    rw [this] at hd
    grind

theorem cancel {a x y : Int} (ha : a ≠ 0) (h : a * x = a * y) : x = y := Int.eq_of_mul_eq_mul_left ha h

theorem gcd_subr {h k : Nat} (h1 : h ≤ k) (hg : Nat.gcd h k = 1) : Nat.gcd (k - h) k = 1 := by
  have : Nat.gcd (k - h) k = Nat.gcd (k - h) h := by
    have e : k = h + (k - h) := by omega
    conv => lhs; rw [e]
    simp
  rw [this, Nat.gcd_comm, Nat.gcd_sub_self_right h1]; exact hg

theorem odd_aux (h k : Nat) (h0 : 0 < h) (h1 : 2 * h < k) (hg : Nat.gcd h k = 1) : T (k - h) k = - T h k := by
  have hlt : h < k := by omega
  have g2 := gcd_subr (Nat.le_of_lt hlt) hg
  have r1 := recip (k - h) k (by omega) (by omega) g2
  have m1 : k % (k - h) = h := by
    rw [Nat.mod_eq_sub_mod (by omega), Nat.mod_eq_of_lt (by omega)]; omega
  rw [m1] at r1
  have g3 : Nat.gcd h (k - h) = 1 := by
    rw [Nat.gcd_sub_self_right (by omega)]; exact hg
  have r2 := recip h (k - h) h0 (by omega) g3
  have m2 : (k - h) % h = k % h := (Nat.mod_eq_sub_mod (a := k) (b := h) (by omega)).symm
  rw [m2] at r2
  have r3 := recip h k h0 hlt hg
  have ec : ((k - h : Nat) : Int) = k - h := by omega
  rw [ec] at r1 r2
  generalize T (k - h) k = X at *
  generalize T h k = Y at *
  generalize T h (k - h) = Z at *
  generalize T (k % h) h = W at *
  have hh : (h : Int) ≠ 0 := by omega
  have hkh : ((k : Int) - h) ≠ 0 := by omega
  generalize (h : Int) = a at *
  generalize (k : Int) = b at *
  apply cancel (a := a * (b - a)) (Int.mul_ne_zero hh hkh)
  have e1 : a * ((b - a) * X) = a * ((b - a) * (b - a) + b * b + 1 - 3 * (b - a) * b) - b * (a * Z) := by rw [← r1]; grind
  have e2 : b * (a * Z) = b * (a * a + (b - a) * (b - a) + 1 - 3 * a * (b - a)) - (b - a) * (b * W) := by rw [← r2]; grind
  have e3 : (b - a) * (b * W) = (b - a) * (a * a + b * b + 1 - 3 * a * b) - (b - a) * (a * Y) := by rw [← r3]; grind
  grind

theorem odd (h k : Nat) (h0 : 0 < h) (h1 : h < k) (hg : Nat.gcd h k = 1) : T (k - h) k = - T h k := by
  by_cases c1 : 2 * h < k
  · exact odd_aux h k h0 c1 hg
  · by_cases c2 : 2 * h = k
    · have hh : h = 1 := by
        have : Nat.gcd h k = h := by rw [← c2]; simp
        omega
      subst hh
      have : k = 2 := by omega
      subst this
      decide +kernel
    · have := odd_aux (k - h) k (by omega) (by omega) (gcd_subr (Nat.le_of_lt h1) hg)
      have e : k - (k - h) = h := by omega
      rw [e] at this; omega

theorem gcd_of_inv {h g k m : Nat} (e : h * g = 1 + k * m) : Nat.gcd h k = 1 := by
  apply Nat.eq_one_of_dvd_one
  have d1 : Nat.gcd h k ∣ h * g := Nat.dvd_trans (Nat.gcd_dvd_left h k) (Nat.dvd_mul_right h g)
  have d2 : Nat.gcd h k ∣ k * m := Nat.dvd_trans (Nat.gcd_dvd_right h k) (Nat.dvd_mul_right k m)
  rw [e] at d1
  exact (Nat.dvd_add_left d2).mp d1

theorem symm_alg {a b c d A B X : Int} (e : a * b = 1 + d * c)
    (s1 : b * c * (a * A) = b * c * (a * a + d * d + 1 - 3 * a * d) + b * d * (c * c + a * a + 1 - 3 * c * a - a * X))
    (s2 : a * c * (b * B) = a * c * (b * b + d * d + 1 - 3 * b * d) + a * d * (c * c + b * b + 1 - 3 * c * b - b * X)) :
    a * b * c * A = a * b * c * B := by
  have h : (b * c * (a * a + d * d + 1 - 3 * a * d) + b * d * (c * c + a * a + 1 - 3 * c * a - a * X)) - (a * c * (b * b + d * d + 1 - 3 * b * d) + a * d * (c * c + b * b + 1 - 3 * c * b - b * X)) = -(b - a) * (c + d) * (a * b - (1 + d * c)) := by
    clear e s1 s2; grind
  rw [e, Int.sub_self, Int.mul_zero] at h
  have h := Int.eq_of_sub_eq_zero h
  rw [← s1, ← s2] at h
  have e1 : a * b * c * A = b * c * (a * A) := by clear e s1 s2 h; grind
  have e2 : a * b * c * B = a * c * (b * B) := by clear e s1 s2 h; grind
  rw [e1, e2, h]

/-- the same for the inverse -/
theorem symm_inv : ∀ (k h g m : Nat), 0 < h → h < k → 0 < g → g < k → h * g = 1 + k * m → T h k = T g k := by
  intro k
  induction k using Nat.strongRecOn with
  | _ k ih =>
    intro h g m h0 h1 g0 g1 e
    have gh := gcd_of_inv e
    have gg : Nat.gcd g k = 1 := gcd_of_inv (by rw [Nat.mul_comm]; exact e)
    by_cases hm : m = 0
    · subst hm
      rw [Nat.mul_zero, Nat.add_zero] at e
      rw [Nat.eq_one_of_mul_eq_one_right e, Nat.eq_one_of_mul_eq_one_left e]
    have mlh : m < h := by
      have : k * m < k * h := by
        have : h * g ≤ h * (k - 1) := Nat.mul_le_mul_left h (by omega)
        have e2 : h * (k - 1) + h = h * k := by
          have : h * (k - 1 + 1) = h * k := by congr 1; omega
          rw [← this, Nat.mul_succ]
        have : h * k = k * h := Nat.mul_comm h k
        omega
      exact Nat.lt_of_mul_lt_mul_left this
    have mlg : m < g := by
      have : k * m < k * g := by
        have : g * h ≤ g * (k - 1) := Nat.mul_le_mul_left g (by omega)
        have e2 : g * (k - 1) + g = g * k := by
          have : g * (k - 1 + 1) = g * k := by congr 1; omega
          rw [← this, Nat.mul_succ]
        have : g * k = k * g := Nat.mul_comm g k
        have : h * g = g * h := Nat.mul_comm h g
        omega
      exact Nat.lt_of_mul_lt_mul_left this
    -- T (k % h) h = - T m h
    have key : ∀ h g : Nat, 0 < h → h < k → m < h → h * g = 1 + k * m → T (k % h) h = - T m h := by
      intro h g h0 h1 mlh e
      have gh := gcd_of_inv e
      have gmh : Nat.gcd m h = 1 := by
        apply Nat.eq_one_of_dvd_one
        have d1 : Nat.gcd m h ∣ h * g := Nat.dvd_trans (Nat.gcd_dvd_right m h) (Nat.dvd_mul_right h g)
        have d2 : Nat.gcd m h ∣ k * m := Nat.dvd_trans (Nat.gcd_dvd_left m h) (Nat.dvd_mul_left m k)
        rw [e] at d1
        exact (Nat.dvd_add_left d2).mp d1
      rw [← odd m h (by omega) mlh gmh]
      have hk : 0 < k % h := by
        apply Nat.pos_of_ne_zero
        intro hz
        have := gcd_mod gh
        rw [hz] at this; simp at this; omega
      -- (k % h) * (h - m) = 1 + h * x
      have dv := Nat.div_add_mod k h
      have : ∃ x, (k % h) * (h - m) = 1 + h * x := by
        refine ⟨k % h + (k / h) * m - g, ?_⟩
        have ez : ((k % h : Nat) : Int) * ((h : Int) - m) = 1 + h * ((k % h : Nat) + (k / h : Nat) * m - g) := by
          have e' : (h : Int) * g = 1 + k * m := by exact_mod_cast e
          have dv' : (h : Int) * (k / h : Nat) + (k % h : Nat) = k := by exact_mod_cast dv
          rw [← dv'] at e'
          generalize ((k / h : Nat) : Int) = a at *
          generalize ((k % h : Nat) : Int) = r at *
          grind
        have le : g ≤ k % h + (k / h) * m := by
          apply Nat.le_of_mul_le_mul_left _ h0
          rw [e, Nat.mul_add, ← Nat.mul_assoc]
          have : k * m = (h * (k / h)) * m + (k % h) * m := by rw [← Nat.add_mul, dv]
          have : (k % h) * m + 1 ≤ h * (k % h) := by
            have : (k % h) * m + (k % h) ≤ (k % h) * h := by
              rw [← Nat.mul_succ]; exact Nat.mul_le_mul_left _ mlh
            rw [Nat.mul_comm h]; omega
          omega
        have c1 : ((h - m : Nat) : Int) = (h : Int) - m := by omega
        have c2 : ((k % h + (k / h) * m - g : Nat) : Int) = (k % h : Nat) + (k / h : Nat) * m - g := by
          rw [Int.ofNat_sub le]; simp
        rw [← c1, ← c2] at ez
        exact_mod_cast ez
      obtain ⟨x, hx⟩ := this
      exact ih h h1 (k % h) (h - m) x hk (Nat.mod_lt _ h0) (by omega) (by omega) hx
    have kh := key h g h0 h1 mlh e
    have kg := key g h g0 g1 mlg (by rw [Nat.mul_comm]; exact e)
    have r1 := recip h k h0 h1 gh
    have r2 := recip g k g0 g1 gg
    rw [kh] at r1
    rw [kg] at r2
    have m0 : 0 < m := Nat.pos_of_ne_zero hm
    have gmh : Nat.gcd m h = 1 := by
      apply Nat.eq_one_of_dvd_one
      have d1 : Nat.gcd m h ∣ h * g := Nat.dvd_trans (Nat.gcd_dvd_right m h) (Nat.dvd_mul_right h g)
      have d2 : Nat.gcd m h ∣ k * m := Nat.dvd_trans (Nat.gcd_dvd_left m h) (Nat.dvd_mul_left m k)
      rw [e] at d1
      exact (Nat.dvd_add_left d2).mp d1
    have gmg : Nat.gcd m g = 1 := by
      apply Nat.eq_one_of_dvd_one
      have d1 : Nat.gcd m g ∣ h * g := Nat.dvd_trans (Nat.gcd_dvd_right m g) (Nat.dvd_mul_left g h)
      have d2 : Nat.gcd m g ∣ k * m := Nat.dvd_trans (Nat.gcd_dvd_left m g) (Nat.dvd_mul_left m k)
      rw [e] at d1
      exact (Nat.dvd_add_left d2).mp d1
    have r3 := recip m h m0 mlh gmh
    have r4 := recip m g m0 mlg gmg
    have x : T (h % m) m = T (g % m) m := by
      by_cases m1 : m = 1
      · subst m1; simp [Nat.mod_one]
      · have hgm : ∃ y, (h % m) * (g % m) = 1 + m * y := by
          have : ((h % m) * (g % m)) % m = 1 := by
            rw [← Nat.mul_mod, e, Nat.add_mul_mod_self_right]
            exact Nat.mod_eq_of_lt (by omega)
          refine ⟨((h % m) * (g % m)) / m, ?_⟩
          have := Nat.div_add_mod ((h % m) * (g % m)) m
          omega
        obtain ⟨y, hy⟩ := hgm
        have p1 : 0 < h % m := by
          apply Nat.pos_of_ne_zero; intro z; rw [z] at hy; omega
        have p2 : 0 < g % m := by
          apply Nat.pos_of_ne_zero; intro z; rw [z] at hy; omega
        exact ih m (by omega) (h % m) (g % m) y p1 (Nat.mod_lt _ m0) p2 (Nat.mod_lt _ m0) hy
    rw [← x] at r4
    have e' : (h : Int) * g = 1 + k * m := by exact_mod_cast e
    have nh : (h : Int) ≠ 0 := by omega
    have ng : (g : Int) ≠ 0 := by omega
    have nm : (m : Int) ≠ 0 := by omega
    generalize T (h % m) m = X at *
    generalize T h k = A at *
    generalize T g k = B at *
    generalize T m h = C at *
    generalize T m g = D at *
    generalize (h : Int) = a at *
    generalize (g : Int) = b at *
    generalize (m : Int) = c at *
    generalize (k : Int) = d at *
    apply cancel (a := a * b * c) (Int.mul_ne_zero (Int.mul_ne_zero nh ng) nm)
    have s1 : b * c * (a * A) = b * c * (a * a + d * d + 1 - 3 * a * d) + b * d * (c * C) := by rw [← r1]; grind
    have s2 : a * c * (b * B) = a * c * (b * b + d * d + 1 - 3 * b * d) + a * d * (c * D) := by rw [← r2]; grind
    have s3 : c * C = c * c + a * a + 1 - 3 * c * a - a * X := by rw [← r3]; grind
    have s4 : c * D = c * c + b * b + 1 - 3 * c * b - b * X := by rw [← r4]; grind
    rw [s3] at s1
    rw [s4] at s2
    exact symm_alg e' s1 s2

/-- modulo k : h and its inverse -/
theorem T_mod (h k g m : Nat) (h0 : 0 < h) (h1 : h < k) (e : h * g = 1 + k * m) : (T h k - h - g) % k = 0 := by
  have gh := gcd_of_inv e
  obtain ⟨hp, hq⟩ := cm_cf k h (by omega) gh
  have hd := cm_det (cf h k)
  have e' : (h : Int) * g = 1 + k * m := by exact_mod_cast e
  rw [hp, hq] at hd
  apply Int.emod_eq_zero_of_dvd
  unfold T tl
  generalize (cm (cf h k)).q' = q at *
  generalize (cm (cf h k)).p' = p at *
  generalize alt (cf h k).tail = t at *
  unfold sg at hd
  generalize (h : Int) = a at *
  generalize (g : Int) = b at *
  generalize (m : Int) = c at *
  generalize (k : Int) = d at *
  split
  · rename_i hpar
    rw [if_pos hpar] at hd
    -- a * q - p * d = 1
    refine ⟨t - 3 - c * q + p * b, ?_⟩
    -- q - b = q * 1 - b * 1 = q (a b - d c) - b (a q - p d) = - d c q + p d b
    grind
  · rename_i hpar
    rw [if_neg hpar] at hd
    refine ⟨t + c * q - p * b, ?_⟩
    grind
end Plain
/-- a goal that the walk is to leave as it stands -/
def Hold (P : Prop) : Prop := P
theorem halt {P : Prop} (h : Hold P) : P := h
abbrev Led := List (Addr × Obj)
abbrev Fm := Str → Option Value
abbrev Rt := Heap → Addr → Fm → Shared → (Value → Shared → Prop) → Prop
/-- a contract of the def at f: called upon vs with the ledger news it comes back by Ret -/
def Ct (w : World) (f : Addr) (need : Nat) (vs : List Value) (news : Led) (Ret : Rt) : Prop :=
  ∀ (mean : ExcName → Option Value) (mg mb : Str → Option Value) (dp un : Nat) (gd : Option (List Code)) (cn : Str) (cs : Scope) (a : Addr) (ccd : Value) (cl : List (Str × Addr)) (outer : List Env)
    (A₀ : Around) (base h₀ : Heap) (L : Addr) (m : Fm) (s : Shared) (Q E : Value → Shared → Prop),
    Below A₀ base outer h₀ → Fr h₀ L s.heap m → (hd.heap_39 w.params).In h₀ → News h₀ L s.heap news → Top hd.view_39 (looseW hd.view_39 []) mean mg mb h₀ → cs.kind = .function →
    dp + need < recursionLimit → un + 8 * need < cLine → Ret h₀ L m s Q →
    wpAny (model PySem.Challenge.rw_tk0011_01.row.prog w) (ktrTop dp un gd cn cs L a ccd cl outer) (call (.ref f) vs) Q E s

abbrev tup (vs : List Value) (c : Nat) : Obj := { cls := .type "tuple", data := .seq vs.toArray c }
def RI (news : Led) (r : Int) : Rt := fun h₀ L m s Q => ∀ (t : Tok) (h' : Heap) (tk' : Nat), Fr h₀ L h' m → News h₀ L h' news → Q (.int r t) { s with heap := h', toks := tk' }
def RB (news : Led) (r : Bool) : Rt := fun h₀ L m s Q => ∀ (h' : Heap) (tk' : Nat), Fr h₀ L h' m → News h₀ L h' news → Q (.bool r) { s with heap := h', toks := tk' }
def RT2 (news : Led) (x y : Int) : Rt := fun h₀ L m s Q => ∀ (D : Addr) (t1 t2 : Tok) (c : Nat) (h' : Heap) (tk' : Nat), Fr h₀ L h' m → News h₀ L h' ((D, tup [.int x t1, .int y t2] c) :: news) → AllLt D news → Q (.ref D) { s with heap := h', toks := tk' }

section
variable {h₀ h' : Heap} {L : Addr} {m : Fm} {s : Shared} {Q : Value → Shared → Prop} {news news' : Led} {tk' : Nat}
theorem ri_end {r x : Int} {t : Tok} (hr : RI news r h₀ L m s Q) (F : Fr h₀ L h' m) (N : News h₀ L h' news') (hn : ∀ p ∈ news, p ∈ news') (e : Hold (x = r)) : Q (.int x t) { s with heap := h', toks := tk' } := by
  unfold Hold at e; subst e
  exact hr t h' tk' F fun p hp => N p (hn p hp)
theorem rb_end {r x : Bool} (hr : RB news r h₀ L m s Q) (F : Fr h₀ L h' m) (N : News h₀ L h' news') (hn : ∀ p ∈ news, p ∈ news') (e : Hold (x = r)) : Q (.bool x) { s with heap := h', toks := tk' } := by
  unfold Hold at e; subst e
  exact hr h' tk' F fun p hp => N p (hn p hp)
theorem rt2_end {x y x' y' : Int} {D : Addr} {t1 t2 : Tok} {c : Nat} (hr : RT2 news x y h₀ L m s Q) (F : Fr h₀ L h' m) (N : News h₀ L h' news') (hD : (D, tup [.int x' t1, .int y' t2] c) ∈ news') (hn : ∀ p ∈ news, p ∈ news') (hl : AllLt D news) (e : Hold (x' = x)) (e2 : Hold (y' = y)) : Q (.ref D) { s with heap := h', toks := tk' } := by
  unfold Hold at e e2; subst e; subst e2
  refine hr D t1 t2 c h' tk' F (fun p hp => ?_) hl
  rcases List.mem_cons.mp hp with rfl | hp
  · exact N _ hD
  · exact N p (hn p hp)
end
theorem ct_use {w : World} {f : Addr} {need : Nat} {vs : List Value} {news : Led} {Ret : Rt} {mean : ExcName → Option Value} {mg mb : Str → Option Value} {dp un : Nat} {gd : Option (List Code)} {cn : Str} {cs : Scope} {a : Addr} {ccd : Value} {cl : List (Str × Addr)} {outer : List Env}
    {A₀ : Around} {base h₀ : Heap} {L : Addr} {m : Fm} {s : Shared} {Q E : Value → Shared → Prop} (C : Ct w f need vs news Ret)
    (B : Below A₀ base outer h₀) (F : Fr h₀ L s.heap m) (X : (hd.heap_39 w.params).In h₀) (N : News h₀ L s.heap news) (T : Top hd.view_39 (looseW hd.view_39 []) mean mg mb h₀) (hk : cs.kind = .function)
    (hdp : dp + need < recursionLimit) (hun : un + 8 * need < cLine) (hr : Ret h₀ L m s Q) :
    wpAny (model PySem.Challenge.rw_tk0011_01.row.prog w) (ktrTop dp un gd cn cs L a ccd cl outer) (call (.ref f) vs) Q E s := C mean mg mb dp un gd cn cs a ccd cl outer A₀ base h₀ L m s Q E B F X N T hk hdp hun hr

local macro_rules | `(tactic| walk_at "call ref") => `(tactic| (refine halt ?_))
local macro_rules | `(tactic| walk_at "ded enter") => `(tactic| (
  w_top off; k_with_none; unfold Ct; k_fill
  intro mean mg mb dp un gd cn cs aa ccd cl outer A₀ base h₀ L m s Q E B F X N T hk hdp hun hret
  refine wpAny_call ?_
  k_dflt cell_enter))
local macro_rules | `(tactic| walk_at "ded loop") => `(tactic| ((repeat' (first | ((goal_lacks Hold); first | (k_end; walk_at "ded end") | (k_unfold; (try dsimp only)) | walk1 | (dsimp only; walk1)) | ((with_reducible show Hold (_ = _)); exact rfl) | fail "no step")); (all_goals try unfold Hold)))
local macro_rules | `(tactic| walk_at "KswEnd") => `(tactic| k_extra "ded KswEnd")
theorem sub_refl {l : Led} : ∀ p ∈ l, p ∈ l := fun _ h => h
theorem sub_r {l l' : Led} {a : Addr × Obj} (h : ∀ p ∈ l, p ∈ l') : ∀ p ∈ l, p ∈ a :: l' := fun p hp => List.mem_cons_of_mem _ (h p hp)
theorem sub_l {l l' : Led} {a : Addr × Obj} (ha : a ∈ l') (h : ∀ p ∈ l, p ∈ l') : ∀ p ∈ a :: l, p ∈ l' := List.forall_mem_cons.mpr ⟨ha, h⟩
theorem sub_nil {l' : Led} : ∀ p ∈ ([] : Led), p ∈ l' := fun _ h => nomatch h
local macro_rules | `(tactic| walk_at "ded sub") => `(tactic| first
  | with_reducible exact sub_nil
  | with_reducible exact sub_refl
  | ((with_reducible refine sub_r ?_); walk_at "ded sub")
  | ((with_reducible refine sub_l ?ma ?mb); (case ma => k_mem); (case mb => walk_at "ded sub"))
  | kcj_all)
local macro_rules | `(tactic| walk_at "ded end") => `(tactic| (k_extra "ded ret end"))
local macro_rules | `(tactic| walk_at "ded end") => `(tactic| ((with_reducible rename RI _ _ _ _ _ _ _ => hR); (with_reducible refine' ri_end hR ?xa ?xb ?xc ?_); (case xa => assumption); (case xb => assumption); (case xc => walk_at "ded sub")))
local macro_rules | `(tactic| walk_at "ded end") => `(tactic| ((with_reducible rename RB _ _ _ _ _ _ _ => hR); (with_reducible refine' rb_end hR ?xa ?xb ?xc ?_); (case xa => assumption); (case xb => assumption); (case xc => walk_at "ded sub")))
theorem allLt_mem {D : Addr} : ∀ {l : Led}, AllLt D l → ∀ p ∈ l, p.1 < D
  | [], _, _, h => nomatch h
  | _ :: _, h, p, hp => by
    rcases List.mem_cons.mp hp with rfl | hp
    · exact h.1
    · exact allLt_mem h.2 p hp
theorem allLt_trans {D D' : Addr} {l : Led} (h : AllLt D l) (hd : D < D') : AllLt D' l := allLt_of fun p hp => Nat.lt_trans (allLt_mem h p hp) hd
local macro_rules | `(tactic| walk_at "ded lt") => `(tactic| first
  | assumption
  | exact allLt_of (by assumption)
  | exact And.right (by assumption)
  | exact And.right (And.right (by assumption))
  | exact And.right (And.right (And.right (by assumption)))
  | exact And.right (And.right (And.right (And.right (by assumption))))
  | exact And.right (And.right (And.right (And.right (And.right (by assumption))))))
local macro_rules | `(tactic| walk_at "ded end") => `(tactic| ((with_reducible rename RT2 _ _ _ _ _ _ _ _ => hR); (with_reducible refine' rt2_end hR ?xa ?xb ?xc ?xd ?xe ?_ ?_); (case xa => assumption); (case xb => assumption); (case xc => k_mem); (case xd => walk_at "ded sub"); (case xe => walk_at "ded lt")))
local macro_rules | `(tactic| walk_at "ded ret") => `(tactic| first
  | ((with_reducible show RI _ _ _ _ _ _ _); unfold RI; intro t' h' tk' F' N'; (try dsimp only); (try k_sweep); (try k_fold))
  | ((with_reducible show RB _ _ _ _ _ _ _); unfold RB; intro h' tk' F' N'; (try dsimp only); (try k_sweep); (try k_fold))
  | ((with_reducible show RT2 _ _ _ _ _ _ _ _); unfold RT2; intro D' t1' t2' c' h' tk' F' N' l1; (try simp only [AllLt, and_true] at l1); (try dsimp only); (try k_sweep); (try k_fold)))
local macro_rules | `(tactic| walk_at "ded fact") => `(tactic| first | with_reducible assumption | omega | k_extra "ded fact")
local macro_rules | `(tactic| walk_at "ded room") => `(tactic| ((try simp only [depth_under_make, depth_under_kw, depth_in1, depth_deeper, depth_caller, units_in1, units_deeper, Around.mark_units, units_caller]); (try dsimp only [ktrTop]); (have hcL9 := cLine_is); (have hrl9 : recursionLimit = 1000 := rfl); omega))
theorem py_ok {x y : Int} (h : y.natAbs < 4611686018427387904) : Builtin.divisionGoesByPylong x y = false := by
  refine PyProof.noPylong_of_log2 ?_
  by_cases h0 : y.natAbs = 0
  · rw [h0]; decide +kernel
  · have h30 : y.natAbs.log2 < 62 := (Nat.log2_lt h0).mpr (by omega)
    omega
local macro_rules | `(tactic| walk_at "ded dec") => `(tactic| first | omega | ((simp only [beq_iff_eq, bne_iff_ne, decide_eq_true_eq, ne_eq, Bool.not_eq_true]); omega))
local macro_rules | `(tactic| walk_at "ite") => `(tactic| first | refine ite_neg (by walk_at "ded dec") ?_ | refine ite_pos (by walk_at "ded dec") ?_)
local macro_rules | `(tactic| walk_at "binaryOp FloorDiv int int") => `(tactic| (refine PyProof.Rows.floordiv_int ?dk1 ?_ (Or.inl (py_ok ?dk2)); (case dk1 => walk_at "ded fact"); (case dk2 => walk_at "ded fact")))
local macro_rules | `(tactic| walk_at "binaryOp Mod int int") => `(tactic| (refine PyProof.Rows.mod_int' ?dk1 ?_; (case dk1 => walk_at "ded fact")))
local macro_rules | `(tactic| walk_at "ded mem") => `(tactic| first | assumption | exact List.Mem.head _ | (refine List.Mem.tail _ ?_; walk_at "ded mem") | (refine List.mem_append.mpr (Or.inl ?_); walk_at "ded mem") | (refine List.mem_append.mpr (Or.inr ?_); walk_at "ded mem") | k_mem)
theorem fmod_nn {x y : Int} (hy : 0 ≤ y) (h : y ≠ 0) : 0 ≤ Int.fmod x y ∧ (Int.fmod x y).toNat < y.toNat := by
  have := Int.fmod_nonneg_of_pos x (b := y) (by omega)
  have := Int.fmod_lt_of_pos x (b := y) (by omega)
  omega
theorem gcd_step {x y : Int} (hx : 0 ≤ x) (hy : 0 ≤ y) : Int.gcd y (Int.fmod x y) = Int.gcd x y := by
  rw [Int.fmod_eq_emod_of_nonneg _ hy, Int.gcd_comm y]
  obtain ⟨n, rfl⟩ := Int.eq_ofNat_of_zero_le hx
  obtain ⟨m, rfl⟩ := Int.eq_ofNat_of_zero_le hy
  rw [← Int.natCast_emod]
  show Nat.gcd (n % m) m = Nat.gcd n m
  rw [← Nat.gcd_rec, Nat.gcd_comm]
theorem abs_nn (a : Int) : 0 ≤ (if a < 0 then -a else a) := by split <;> omega
theorem abs_abs (a : Int) : (if a < 0 then -a else a).natAbs = a.natAbs := by split <;> omega
theorem gcd_abs (a b : Int) : Int.gcd (if a < 0 then -a else a) (if b < 0 then -b else b) = Int.gcd a b := by
  unfold Int.gcd; rw [abs_abs, abs_abs]
theorem gcd_ct (w : World) (a b : Int) (ta tb : Tok) (news : Led) : Ct w 41 2 [.int a ta, .int b tb] news (RI news (Int.gcd a b : Int)) := by
  walk_at "ded enter"
  k_with "exec While Compare cons nil" =>
    rename Fr _ _ _ _ => lF'
    rename News _ _ _ _ => lN'
    with_unfolding_all refine' ksw_while (fun (_ : Int × Int × Tok × Tok) => news) (fun c => [(Str.ofString "a", .int c.1 c.2.2.1), (Str.ofString "b", .int c.2.1 c.2.2.2)]) (fun _ => True) [] (fun c => 0 ≤ c.1 ∧ 0 ≤ c.2.1 ∧ Int.gcd c.1 c.2.1 = Int.gcd a b) (fun c => c.2.1.toNat) (_, _, _, _) lF' ?kn ?kf ?kk ?kp ?_
    case kn => exact kst_newsOf lN' (by kst_inAny)
    case kf => trivial
    case kk => kst_all
    case kp => exact ⟨abs_nn a, abs_nn b, gcd_abs a b⟩
    clear lF' lN'
    rintro ⟨x, y, tx, ty⟩ u h tk - ⟨hx, hy, hxy⟩ F N
    dsimp only [kstB] at F N hx hy hxy ⊢
  k_with "ded KswEnd" =>
    rename News _ _ _ _ => nE'
    refine ksw_end ⟨_, _, _, _⟩ (by assumption) nE' (by kst_in) trivial (by kst_all) (by ksw_same) ?_ ?_
    · exact ⟨hy, (fmod_nn hy (by assumption)).1, (gcd_step hx hy).trans hxy⟩
    · exact (fmod_nn hy (by assumption)).2
  walk_at "ded loop"
  rename y = 0 => h0
  rw [← hxy, h0, Int.gcd_zero_right]
  omega
local macro_rules | `(tactic| walk_at "call ref") => `(tactic| (k_here; k_dflt (refine' ct_use (gcd_ct _ _ _ _ _ _) ?k1 ?k2 ?k3 ?k4 ?k5 ?k6 ?k7 ?k8 ?_; (case k1 => k_asm); (case k2 => k_asm); (case k3 => k_asm); (case k4 => k_asm); (case k5 => k_asm); (case k6 => first | exact rfl | assumption); (case k7 => walk_at "ded room"); (case k8 => walk_at "ded room"); k_whole); walk_at "ded ret"))
def rx (a b : Int) : Int := Int.fdiv a (Int.gcd a b)
def ry (a b : Int) : Int := Int.fdiv b (Int.gcd a b)
theorem gcd_pos {a b : Int} (h : 0 < b) : 0 < (Int.gcd a b : Int) := by
  have : 0 < Int.gcd a b := Int.gcd_pos_of_ne_zero_right a (by omega)
  omega
theorem gcd_le {a b : Int} (h : 0 < b) : (Int.gcd a b : Int) ≤ b := by
  have : Int.gcd a b ≤ b.natAbs := Nat.gcd_le_right _ (by omega)
  omega
theorem rat_ct (w : World) (a b : Int) (ta tb : Tok) (news : Led) (hb : 0 < b) (hs : b < 4611686018427387904) : Ct w 69 4 [.int a ta, .int b tb] news (RT2 news (rx a b) (ry a b)) := by
  walk_at "ded enter"
  have hg := gcd_pos (a := a) hb
  have hl := gcd_le (a := a) hb
  walk_at "ded loop"
local macro_rules | `(tactic| walk_at "call ref") => `(tactic| (k_here; k_dflt (refine' ct_use (rat_ct _ _ _ _ _ _ ?p1 ?p2) ?k1 ?k2 ?k3 ?k4 ?k5 ?k6 ?k7 ?k8 ?_; (case k1 => k_asm); (case k2 => k_asm); (case k3 => k_asm); (case k4 => k_asm); (case k5 => k_asm); (case k6 => first | exact rfl | assumption); (case k7 => walk_at "ded room"); (case k8 => walk_at "ded room"); (case p1 => walk_at "ded fact"); (case p2 => walk_at "ded fact"); k_whole); walk_at "ded ret"))
theorem mul_bnd {a b : Int} (ha : 0 < a) (ha' : a < 2147483648) (hb : 0 < b) (hb' : b < 2147483648) : 0 < a * b ∧ a * b < 4611686018427387904 := by
  refine ⟨Int.mul_pos ha hb, ?_⟩
  have h1 : a * b ≤ 2147483647 * b := Int.mul_le_mul_of_nonneg_right (by omega) (by omega)
  omega
theorem radd_ct (w : World) (a0 a1 b0 b1 : Int) (ta0 ta1 tb0 tb1 : Tok) (ca cb : Nat) (A B : Addr) (news : Led) (hA : (A, tup [.int a0 ta0, .int a1 ta1] ca) ∈ news) (hB : (B, tup [.int b0 tb0, .int b1 tb1] cb) ∈ news)
    (ha : 0 < a1) (ha' : a1 < 2147483648) (hb : 0 < b1) (hb' : b1 < 2147483648) : Ct w 76 6 [.ref A, .ref B] news (RT2 news (rx (a0 * b1 + b0 * a1) (a1 * b1)) (ry (a0 * b1 + b0 * a1) (a1 * b1))) := by
  walk_at "ded enter"
  obtain ⟨hm, hm'⟩ := mul_bnd ha ha' hb hb'
  walk_at "ded loop"
theorem rsub_ct (w : World) (a0 a1 b0 b1 : Int) (ta0 ta1 tb0 tb1 : Tok) (ca cb : Nat) (A B : Addr) (news : Led) (hA : (A, tup [.int a0 ta0, .int a1 ta1] ca) ∈ news) (hB : (B, tup [.int b0 tb0, .int b1 tb1] cb) ∈ news)
    (ha : 0 < a1) (ha' : a1 < 2147483648) (hb : 0 < b1) (hb' : b1 < 2147483648) : Ct w 83 6 [.ref A, .ref B] news (RT2 news (rx (a0 * b1 - b0 * a1) (a1 * b1)) (ry (a0 * b1 - b0 * a1) (a1 * b1))) := by
  walk_at "ded enter"
  obtain ⟨hm, hm'⟩ := mul_bnd ha ha' hb hb'
  walk_at "ded loop"
theorem rinv_ct (w : World) (a0 a1 : Int) (ta0 ta1 : Tok) (ca : Nat) (A : Addr) (news : Led) (hA : (A, tup [.int a0 ta0, .int a1 ta1] ca) ∈ news)
    (ha : 0 < a0) (ha' : a0 < 2147483648) : Ct w 90 6 [.ref A] news (RT2 news (rx a1 a0) (ry a1 a0)) := by
  walk_at "ded enter"
  walk_at "ded loop"
theorem rfloor_ct (w : World) (a0 a1 : Int) (ta0 ta1 : Tok) (ca : Nat) (A : Addr) (news : Led) (hA : (A, tup [.int a0 ta0, .int a1 ta1] ca) ∈ news)
    (ha : 0 < a1) (ha' : a1 < 2147483648) : Ct w 97 2 [.ref A] news (RI news (Int.fdiv a0 a1)) := by
  walk_at "ded enter"
  walk_at "ded loop"
local macro_rules | `(tactic| walk_at "call ref") => `(tactic| (k_here; k_dflt (refine' ct_use (radd_ct _ _ _ _ _ _ _ _ _ _ _ _ _ _ ?q1 ?q2 ?p1 ?p2 ?p3 ?p4) ?k1 ?k2 ?k3 ?k4 ?k5 ?k6 ?k7 ?k8 ?_; (case k1 => k_asm); (case k2 => k_asm); (case k3 => k_asm); (case k4 => k_asm); (case k5 => k_asm); (case k6 => first | exact rfl | assumption); (case k7 => walk_at "ded room"); (case k8 => walk_at "ded room"); (case q1 => walk_at "ded mem"); (case q2 => walk_at "ded mem"); (case p1 => walk_at "ded fact"); (case p2 => walk_at "ded fact"); (case p3 => walk_at "ded fact"); (case p4 => walk_at "ded fact"); k_whole); walk_at "ded ret"))
local macro_rules | `(tactic| walk_at "call ref") => `(tactic| (k_here; k_dflt (refine' ct_use (rsub_ct _ _ _ _ _ _ _ _ _ _ _ _ _ _ ?q1 ?q2 ?p1 ?p2 ?p3 ?p4) ?k1 ?k2 ?k3 ?k4 ?k5 ?k6 ?k7 ?k8 ?_; (case k1 => k_asm); (case k2 => k_asm); (case k3 => k_asm); (case k4 => k_asm); (case k5 => k_asm); (case k6 => first | exact rfl | assumption); (case k7 => walk_at "ded room"); (case k8 => walk_at "ded room"); (case q1 => walk_at "ded mem"); (case q2 => walk_at "ded mem"); (case p1 => walk_at "ded fact"); (case p2 => walk_at "ded fact"); (case p3 => walk_at "ded fact"); (case p4 => walk_at "ded fact"); k_whole); walk_at "ded ret"))
local macro_rules | `(tactic| walk_at "call ref") => `(tactic| (k_here; k_dflt (refine' ct_use (rinv_ct _ _ _ _ _ _ _ _ ?q1 ?p1 ?p2) ?k1 ?k2 ?k3 ?k4 ?k5 ?k6 ?k7 ?k8 ?_; (case k1 => k_asm); (case k2 => k_asm); (case k3 => k_asm); (case k4 => k_asm); (case k5 => k_asm); (case k6 => first | exact rfl | assumption); (case k7 => walk_at "ded room"); (case k8 => walk_at "ded room"); (case q1 => walk_at "ded mem"); (case p1 => walk_at "ded fact"); (case p2 => walk_at "ded fact"); k_whole); walk_at "ded ret"))
local macro_rules | `(tactic| walk_at "call ref") => `(tactic| (k_here; k_dflt (refine' ct_use (rfloor_ct _ _ _ _ _ _ _ _ ?q1 ?p1 ?p2) ?k1 ?k2 ?k3 ?k4 ?k5 ?k6 ?k7 ?k8 ?_; (case k1 => k_asm); (case k2 => k_asm); (case k3 => k_asm); (case k4 => k_asm); (case k5 => k_asm); (case k6 => first | exact rfl | assumption); (case k7 => walk_at "ded room"); (case k8 => walk_at "ded room"); (case q1 => walk_at "ded mem"); (case p1 => walk_at "ded fact"); (case p2 => walk_at "ded fact"); k_whole); walk_at "ded ret"))
def RX3 (news : Led) (a b : Int) : Rt := fun h₀ L m s Q => ∀ (D : Addr) (t1 t2 t3 : Tok) (c : Nat) (x u v : Int) (h' : Heap) (tk' : Nat), x = (Int.gcd a b : Int) → u * a + v * b = x → Fr h₀ L h' m → News h₀ L h' ((D, tup [.int x t1, .int u t2, .int v t3] c) :: news) → Q (.ref D) { s with heap := h', toks := tk' }
theorem rx3_end {h₀ h' : Heap} {L : Addr} {m : Fm} {s : Shared} {Q : Value → Shared → Prop} {news news' : Led} {tk' : Nat} {a b x u v : Int} {D : Addr} {t1 t2 t3 : Tok} {c : Nat} (hr : RX3 news a b h₀ L m s Q) (F : Fr h₀ L h' m) (N : News h₀ L h' news')
    (hD : (D, tup [.int x t1, .int u t2, .int v t3] c) ∈ news') (hn : ∀ p ∈ news, p ∈ news') (e : Hold (x = (Int.gcd a b : Int))) (e2 : Hold (u * a + v * b = x)) : Q (.ref D) { s with heap := h', toks := tk' } := by
  refine hr D t1 t2 t3 c x u v h' tk' e e2 F (fun p hp => ?_)
  rcases List.mem_cons.mp hp with rfl | hp
  · exact N _ hD
  · exact N p (hn p hp)
structure ExS where
  D1 : Addr
  D2 : Addr
  x1 : Int
  s1 : Int
  t1 : Int
  x2 : Int
  s2 : Int
  t2 : Int
  k1 : Tok
  k2 : Tok
  k3 : Tok
  k4 : Tok
  k5 : Tok
  k6 : Tok
  c1 : Nat
  c2 : Nat
structure ExP (a b : Int) (c : ExS) : Prop where
  a0 : 0 ≤ c.x1
  a1 : c.x1 < 2147483648
  b0 : 0 ≤ c.x2
  b1 : c.x2 < 2147483648
  e1 : c.s1 * a + c.t1 * b = c.x1
  e2 : c.s2 * a + c.t2 * b = c.x2
  g : Int.gcd c.x1 c.x2 = Int.gcd a b
theorem sub_fdiv (x y : Int) : x - Int.fdiv x y * y = Int.fmod x y := by
  rw [Int.fmod_def, Int.mul_comm]
theorem fdiv_bnd {x y : Int} (hx : 0 ≤ x) (hy : 0 < y) : 0 ≤ Int.fdiv x y ∧ Int.fdiv x y ≤ x := by
  rw [Int.fdiv_eq_ediv_of_nonneg _ (by omega)]
  exact ⟨Int.ediv_nonneg hx (by omega), Int.ediv_le_self y hx⟩
theorem ex_step {a b : Int} {D1 D2 D3 : Addr} {x1 s1 t1 x2 s2 t2 : Int} {k1 k2 k3 k4 k5 k6 k7 k8 k9 : Tok} {c1 c2 c3 : Nat} (h : ExP a b ⟨D1, D2, x1, s1, t1, x2, s2, t2, k1, k2, k3, k4, k5, k6, c1, c2⟩) (h2 : x2 ≠ 0) :
    ExP a b ⟨D2, D3, x2, s2, t2, x1 - Int.fdiv x1 x2 * x2, s1 - Int.fdiv x1 x2 * s2, t1 - Int.fdiv x1 x2 * t2, k4, k5, k6, k7, k8, k9, c2, c3⟩ := by
  obtain ⟨a0, a1, b0, b1, e1, e2, g⟩ := h
  dsimp only at *
  have f := fmod_nn (x := x1) b0 h2
  have e := sub_fdiv x1 x2
  refine ⟨b0, b1, ?_, ?_, e2, ?_, ?_⟩
  · dsimp only; omega
  · dsimp only; omega
  · dsimp only
    rw [← e1, ← e2]
    generalize Int.fdiv (s1 * a + t1 * b) (s2 * a + t2 * b) = q
    grind
  · dsimp only
    rw [e, gcd_step a0 b0]; exact g
theorem ex_less {x1 x2 : Int} (b0 : 0 ≤ x2) (h2 : x2 ≠ 0) : (x1 - Int.fdiv x1 x2 * x2).toNat < x2.toNat := by
  rw [sub_fdiv]; exact (fmod_nn b0 h2).2
theorem extended_ct (w : World) (a b : Int) (ta tb : Tok) (news : Led) (ha : 0 ≤ a) (ha' : a < 2147483648) (hb : 0 ≤ b) (hb' : b < 2147483648) : Ct w 48 2 [.int a ta, .int b tb] news (RX3 news a b) := by
  walk_at "ded enter"
  k_with "exec While Compare cons nil" =>
    rename Fr _ _ _ _ => lF'
    rename News _ _ _ _ => lN'
    with_unfolding_all refine' ksw_while (fun (c : ExS) => (c.D1, tup [.int c.x1 c.k1, .int c.s1 c.k2, .int c.t1 c.k3] c.c1) :: (c.D2, tup [.int c.x2 c.k4, .int c.s2 c.k5, .int c.t2 c.k6] c.c2) :: news) (fun c => [(Str.ofString "one", .ref c.D1), (Str.ofString "other", .ref c.D2)]) (fun _ => True) [Str.ofString "times", Str.ofString "rest"] (fun c => ExP a b c) (fun c => c.x2.toNat) ⟨_, _, _, _, _, _, _, _, _, _, _, _, _, _, _, _⟩ lF' ?kn ?kf ?kk ?kp ?_
    case kk => kst_all
    case kn => exact kst_newsOf lN' (List.forall_mem_cons.mpr ⟨by k_mem, List.forall_mem_cons.mpr ⟨by k_mem, by walk_at "ded sub"⟩⟩)
    case kf => trivial
    case kp => exact ⟨ha, ha', hb, hb', by simp, by simp, rfl⟩
    clear lF' lN'
    rintro ⟨D1, D2, x1, s1, t1, x2, s2, t2, k1, k2, k3, k4, k5, k6, c1, c2⟩ u h tk - hP F N
    dsimp only [kstB] at F N ⊢
    have hx1 := hP.a0
    have hx2 := hP.a1
    have hx3 := hP.b0
    have hx4 := hP.b1
    dsimp only at hx1 hx2 hx3 hx4
    have hq : x2 = 0 ∨ (0 ≤ Int.fdiv x1 x2 ∧ Int.fdiv x1 x2 ≤ x1) := (Decidable.em (x2 = 0)).imp id fun h => fdiv_bnd hx1 (by omega)
  k_with "ded KswEnd" =>
    rename News _ _ _ _ => nE'
    refine' ksw_end ⟨_, _, _, _, _, _, _, _, _, _, _, _, _, _, _, _⟩ (by assumption) nE' ?kn trivial ?kk (by ksw_same) ?kp ?km
    case kk => kst_all
    case kn => exact List.forall_mem_cons.mpr ⟨by k_mem, List.forall_mem_cons.mpr ⟨by k_mem, by walk_at "ded sub"⟩⟩
    case kp => exact ex_step hP (by assumption)
    case km => exact ex_less hx3 (by assumption)
  k_with "ded ret end" =>
    with_reducible rename RX3 _ _ _ _ _ _ _ _ => hR
    refine rx3_end hR (by assumption) (by assumption) (by k_mem) (by walk_at "ded sub") ?_ ?_
  walk_at "ded loop"
  · rename x2 = 0 => hz
    have := hP.g
    dsimp only at this
    rw [hz, Int.gcd_zero_right] at this
    omega
  · exact hP.e1
local macro_rules | `(tactic| walk_at "call ref") => `(tactic| (k_here; k_dflt (refine' ct_use (extended_ct _ _ _ _ _ _ ?p1 ?p2 ?p3 ?p4) ?k1 ?k2 ?k3 ?k4 ?k5 ?k6 ?k7 ?k8 ?_; (case k1 => k_asm); (case k2 => k_asm); (case k3 => k_asm); (case k4 => k_asm); (case k5 => k_asm); (case k6 => first | exact rfl | assumption); (case k7 => walk_at "ded room"); (case k8 => walk_at "ded room"); (case p1 => walk_at "ded fact"); (case p2 => walk_at "ded fact"); (case p3 => walk_at "ded fact"); (case p4 => walk_at "ded fact"); k_whole); (unfold RX3; intro D' t1' t2' t3' c' x' u' v' h' tk' e1' e2' F' N'; (try dsimp only); (try k_sweep); (try k_fold))))
def RInv (news : Led) (h k : Nat) : Rt := fun h₀ L m s Q => ∀ (t : Tok) (g e : Nat) (h' : Heap) (tk' : Nat), 0 < g → g < k → h * g = 1 + k * e → Fr h₀ L h' m → News h₀ L h' news → Q (.int (g : Int) t) { s with heap := h', toks := tk' }
theorem gcd_fm {h k : Nat} (h1 : h < k) (hg : Nat.gcd h k = 1) : (Int.gcd (Int.fmod h k) k : Int) = 1 := by
  have hf : Int.fmod h k = (h : Int) := by
    rw [Int.fmod_eq_emod_of_nonneg _ (by omega)]; exact Int.emod_eq_of_lt (by omega) (by omega)
  rw [hf]; show ((Nat.gcd h k : Nat) : Int) = 1; rw [hg]; rfl
theorem inv_math {h k : Nat} {u v x : Int} (h0 : 0 < h) (h1 : h < k) (hg : Nat.gcd h k = 1) (e1 : x = (Int.gcd (Int.fmod h k) k : Int)) (e2 : u * Int.fmod h k + v * k = x) :
    x = 1 ∧ ∃ g e : Nat, 0 < g ∧ g < k ∧ h * g = 1 + k * e ∧ Int.fmod u k = (g : Int) := by
  have hf : Int.fmod h k = (h : Int) := by
    rw [Int.fmod_eq_emod_of_nonneg _ (by omega)]; exact Int.emod_eq_of_lt (by omega) (by omega)
  rw [hf] at e1 e2
  have hx : x = 1 := by rw [e1]; show ((Nat.gcd h k : Nat) : Int) = 1; rw [hg]; rfl
  refine ⟨hx, ?_⟩
  have hk : (0 : Int) < k := by omega
  have f0 := Int.emod_nonneg u (b := (k : Int)) (by omega)
  have f1 := Int.emod_lt_of_pos u hk
  obtain ⟨g, hgg⟩ := Int.eq_ofNat_of_zero_le f0
  have hd := Int.emod_add_mul_ediv u k
  -- h * g = 1 + k * e
  have key : (h : Int) * g - 1 = k * (- v - h * (u / k)) := by
    rw [hx] at e2
    rw [hgg] at hd
    rw [← e2]
    generalize u / (k : Int) = q at *
    have hd' : u = g + k * q := by omega
    subst hd'
    grind
  have hgpos : 0 < g := by
    apply Nat.pos_of_ne_zero
    intro hz
    rw [hz] at key
    have hdv : (k : Int) ∣ 1 := ⟨-(- v - h * (u / k)), by rw [Int.mul_neg, ← key]; simp⟩
    have := Int.le_of_dvd (by omega) hdv
    omega
  have hq0 : 0 ≤ (- v - (h : Int) * (u / k)) := by
    refine Decidable.byContradiction fun hneg => ?_
    have h3 : (k : Int) * (- v - h * (u / k)) ≤ k * (-1) := Int.mul_le_mul_of_nonneg_left (by omega) (by omega)
    have h4 : (1 : Int) ≤ h * g := by
      have : 1 ≤ h * g := Nat.mul_pos h0 hgpos
      exact_mod_cast this
    omega
  obtain ⟨e, he⟩ := Int.eq_ofNat_of_zero_le hq0
  refine ⟨g, e, hgpos, by omega, ?_, ?_⟩
  · rw [he] at key
    have : (h : Int) * g = 1 + k * e := by omega
    exact_mod_cast this
  · rw [Int.fmod_eq_emod_of_nonneg _ (by omega)]; exact hgg
theorem rinv_end {h₀ h' : Heap} {L : Addr} {m : Fm} {s : Shared} {Q : Value → Shared → Prop} {news news' : Led} {tk' : Nat} {h k : Nat} {y : Int} {t : Tok} (hr : RInv news h k h₀ L m s Q) (F : Fr h₀ L h' m) (N : News h₀ L h' news')
    (hn : ∀ p ∈ news, p ∈ news') (e : Hold (∃ g e : Nat, 0 < g ∧ g < k ∧ h * g = 1 + k * e ∧ y = (g : Int))) : Q (.int y t) { s with heap := h', toks := tk' } := by
  obtain ⟨g, e, g0, g1, e1, rfl⟩ := e
  exact hr t g e h' tk' g0 g1 e1 F fun p hp => N p (hn p hp)
theorem inverse_ct (w : World) (h k : Nat) (th tk : Tok) (news : Led) (h0 : 0 < h) (h1 : h < k) (hk : k < 2147483648) (hg : Nat.gcd h k = 1) : Ct w 62 4 [.int (h : Int) th, .int (k : Int) tk] news (RInv news h k) := by
  walk_at "ded enter"
  have f1 := fmod_nn (x := (h : Int)) (y := (k : Int)) (by omega) (by omega)
  have f2 : Int.fmod (h : Int) k < 2147483648 := by omega
  k_with "ded ret end" =>
    with_reducible rename RInv _ _ _ _ _ _ _ _ => hR
    refine rinv_end hR (by assumption) (by assumption) (by walk_at "ded sub") ?_
  have f3 := gcd_fm h1 hg
  walk_at "ded loop"
  rename _ = (Int.gcd (Int.fmod h k) k : Int) => hx1
  rename _ * Int.fmod h k + _ * k = _ => hx2
  exact (inv_math h0 h1 hg hx1 hx2).2
def RRow (news : Led) (R : List Int) : Rt := fun h₀ L m s Q => ∀ (D : Addr) (vs : List Value) (c : Nat) (h' : Heap) (tk' : Nat), IntsAre vs R → Fr h₀ L h' m → News h₀ L h' ((D, listOf vs.toArray c) :: news) → AllLt D news → Q (.ref D) { s with heap := h', toks := tk' }
theorem rrow_end {h₀ h' : Heap} {L : Addr} {m : Fm} {s : Shared} {Q : Value → Shared → Prop} {news news' : Led} {tk' : Nat} {R : List Int} {D : Addr} {vs : List Value} {c : Nat} (hr : RRow news R h₀ L m s Q) (F : Fr h₀ L h' m) (N : News h₀ L h' news')
    (hD : (D, listOf vs.toArray c) ∈ news') (hn : ∀ p ∈ news, p ∈ news') (hl : Hold (AllLt D news)) (e : Hold (IntsAre vs R)) : Q (.ref D) { s with heap := h', toks := tk' } := by
  refine hr D vs c h' tk' e F (fun p hp => ?_) hl
  rcases List.mem_cons.mp hp with rfl | hp
  · exact N _ hD
  · exact N p (hn p hp)
theorem ints_snoc {vs : List Value} {ns : List Int} (h : IntsAre vs ns) (x : Int) (t : Tok) : IntsAre (vs ++ [.int x t]) (ns ++ [x]) := by
  induction h with
  | nil => exact .cons _ _ .nil
  | cons _ _ _ ih => exact .cons _ _ ih
structure FrS where
  Fd : Addr
  D : Addr
  vs : List Value
  ns : List Int
  n : Nat
  x : Int
  y : Int
  kx : Tok
  ky : Tok
  c : Nat
structure FrP (news : Led) (R : List Int) (s : FrS) : Prop where
  ia : IntsAre s.vs s.ns
  lt : AllLt s.Fd news
  ne : s.D ≠ s.Fd
  ex : ∃ a b : Nat, s.x = a ∧ s.y = b ∧ 0 < b ∧ b < 2147483648 ∧ Nat.gcd a b = 1 ∧ s.ns ++ cf a b = R
theorem rx_one {x y : Int} (h : Int.gcd x y = 1) : rx x y = x ∧ ry x y = y := by
  unfold rx ry; rw [h]; exact ⟨Int.fdiv_one x, Int.fdiv_one y⟩
theorem fr_math {a b : Nat} (hb : 0 < b) (hg : Nat.gcd a b = 1) :
    rx ((a : Int) * 1 - Int.fdiv a b * b) ((b : Int) * 1) = ((a % b : Nat) : Int) ∧ ry ((a : Int) * 1 - Int.fdiv a b * b) ((b : Int) * 1) = (b : Int) ∧
    rx (b : Int) ((a % b : Nat) : Int) = b ∧ ry (b : Int) ((a % b : Nat) : Int) = ((a % b : Nat) : Int) := by
  have e : (a : Int) * 1 - Int.fdiv a b * b = ((a % b : Nat) : Int) := by
    rw [Int.mul_one, sub_fdiv, Int.fmod_eq_emod_of_nonneg _ (by omega)]; simp
  rw [e, Int.mul_one]
  have h1 : Nat.gcd (a % b) b = 1 := by rw [← Nat.gcd_rec, Nat.gcd_comm]; exact hg
  have h2 := rx_one (x := ((a % b : Nat) : Int)) (y := b) h1
  have h3 := rx_one (x := (b : Int)) (y := ((a % b : Nat) : Int)) (by rw [Int.gcd_comm]; exact h1)
  exact ⟨h2.1, h2.2, h3.1, h3.2⟩
theorem fdiv_cast (a b : Nat) : Int.fdiv (a : Int) b = ((a / b : Nat) : Int) := by
  rw [Int.fdiv_eq_ediv_of_nonneg _ (by omega)]; simp
theorem fr_step {news : Led} {R : List Int} {Fd D D2 : Addr} {vs : List Value} {ns : List Int} {n : Nat} {a b : Nat} {kx ky k : Tok} {c : Nat} {k3 k4 : Tok} {c2 : Nat} (h : FrP news R ⟨Fd, D, vs, ns, n, a, b, kx, ky, c⟩) (hb : 0 < b) (hb' : b < 2147483648) (hg : Nat.gcd a b = 1) (hR : ns ++ cf a b = R)
    (hz : ¬ rx ((a : Int) * 1 - Int.fdiv a b * b) ((b : Int) * 1) = 0) (hne : D2 ≠ Fd) :
    FrP news R ⟨Fd, D2, vs ++ [.int (Int.fdiv a b) k], ns ++ [Int.fdiv a b], n + 1, rx (ry ((a : Int) * 1 - Int.fdiv a b * b) ((b : Int) * 1)) (rx ((a : Int) * 1 - Int.fdiv a b * b) ((b : Int) * 1)), ry (ry ((a : Int) * 1 - Int.fdiv a b * b) ((b : Int) * 1)) (rx ((a : Int) * 1 - Int.fdiv a b * b) ((b : Int) * 1)), k3, k4, c2⟩ := by
  obtain ⟨e1, e2, e3, e4⟩ := fr_math hb hg
  rw [e1] at hz
  refine ⟨ints_snoc h.ia _ _, h.lt, hne, b, a % b, ?_, ?_, by omega, ?_, ?_, ?_⟩
  · dsimp only; rw [e1, e2, e3]
  · dsimp only; rw [e1, e2, e4]
  · have := Nat.mod_lt a hb; omega
  · rw [Nat.gcd_comm, ← Nat.gcd_rec, Nat.gcd_comm]; exact hg
  · dsimp only; rw [← hR, cf_pos a b hb, fdiv_cast]; simp
theorem fr_done {a b : Nat} {R ns : List Int} {vs : List Value} {k : Tok} (hb : 0 < b) (hg : Nat.gcd a b = 1) (hR : ns ++ cf a b = R) (hi : IntsAre vs ns) (hz : rx ((a : Int) * 1 - Int.fdiv a b * b) ((b : Int) * 1) = 0) :
    IntsAre (vs ++ [.int (Int.fdiv a b) k]) R := by
  obtain ⟨e1, e2, e3, e4⟩ := fr_math hb hg
  rw [e1] at hz
  have : a % b = 0 := by omega
  have e : R = ns ++ [Int.fdiv a b] := by rw [← hR, cf_pos a b hb, this, cf_zero, fdiv_cast]
  rw [e]
  exact ints_snoc hi _ _
theorem fr_less {a b : Nat} (hb : 0 < b) (hg : Nat.gcd a b = 1) : (ry (ry ((a : Int) * 1 - Int.fdiv a b * b) ((b : Int) * 1)) (rx ((a : Int) * 1 - Int.fdiv a b * b) ((b : Int) * 1))).toNat < ((b : Int)).toNat := by
  obtain ⟨e1, e2, e3, e4⟩ := fr_math hb hg
  rw [e1, e2, e4]
  have := Nat.mod_lt a hb
  omega
theorem allLt_ne {D : Addr} {l : Led} (h : AllLt D l) : ∀ p ∈ l, p.1 ≠ D := fun p hp => Nat.ne_of_lt (allLt_mem h p hp)
local macro_rules | `(tactic| k_all) => `(tactic| assumption)
theorem row_ct (w : World) (h k : Nat) (uh uk : Tok) (ca : Nat) (A : Addr) (news : Led) (hA : (A, tup [.int (h : Int) uh, .int (k : Int) uk] ca) ∈ news) (hk : 0 < k) (hk' : k < 2147483648) (hg : Nat.gcd h k = 1) (hlen : (cf h k).length < 1000000) :
    Ct w 104 10 [.ref A] news (RRow news (cf h k)) := by
  walk_at "ded enter"
  k_with "exec While Constant cons nil" =>
    rename Fr _ _ _ _ => lF'
    rename News _ _ _ _ => lN'
    with_unfolding_all refine' ksw_while (fun (c : FrS) => (c.Fd, listOf c.vs.toArray c.n) :: (c.D, tup [.int c.x c.kx, .int c.y c.ky] c.c) :: news) (fun c => [(Str.ofString "found", .ref c.Fd), (Str.ofString "r", .ref c.D)]) (fun _ => True) [Str.ofString "whole"] (fun c => FrP news (cf h k) c) (fun c => c.y.toNat) ⟨_, A, [], [], 0, h, k, uh, uk, ca⟩ lF' ?kn ?kf ?kk ?kp ?_
    case kk => kst_all
    case kn => exact kst_newsOf lN' (List.forall_mem_cons.mpr ⟨by k_mem, List.forall_mem_cons.mpr ⟨List.mem_cons_of_mem _ hA, by walk_at "ded sub"⟩⟩)
    case kf => trivial
    case kp => exact ⟨.nil, by walk_at "ded lt", Nat.ne_of_lt (‹∀ p ∈ news, p.1 < _› _ hA), h, k, rfl, rfl, hk, hk', hg, rfl⟩
    clear lF' lN'
    rintro ⟨Fd, D, vs, ns, n, x, y, kx, ky, c⟩ u h tk - hP F N
    obtain ⟨a, b, hxa, hyb, hb, hb', hg', hR⟩ := hP.ex
    dsimp only at hxa hyb hR
    subst hxa hyb
    have hne := allLt_ne hP.lt
    have hDF := hP.ne
    have hi := hP.ia
    have hil := IntsAre.length hi
    have hlen2 : ns.length < 1000000 := by
      have := congrArg List.length hR
      rw [List.length_append] at this; omega
    have hf1 : (0 : Int) < b := by omega
    have hf2 : (b : Int) < 2147483648 := by omega
    obtain ⟨e1, e2, e3, e4⟩ := fr_math hb hg'
    have hml : a % b < b := Nat.mod_lt a hb
    dsimp only [kstB] at F N hne hDF hi hil ⊢
  k_with "ded KswEnd" =>
    rename News _ _ _ _ => nE'
    (try simp only [List.push_toArray] at nE')
    refine' ksw_end ⟨_, _, _, _, _, _, _, _, _, _⟩ (by assumption) nE' ?kn trivial ?kk (by ksw_same) ?kp ?km
    case kk => kst_all
    case kn => exact List.forall_mem_cons.mpr ⟨by k_mem, List.forall_mem_cons.mpr ⟨by k_mem, by walk_at "ded sub"⟩⟩
    case kp =>
      refine fr_step hP hb hb' hg' hR (by assumption) ?_
      refine neN ?_
      omega
    case km => exact fr_less hb hg'
  k_with "ded ret end" =>
    with_reducible rename RRow _ _ _ _ _ _ _ => hRow
    rename News _ _ _ _ => nE'
    (try simp only [List.push_toArray] at nE')
    refine rrow_end hRow (by assumption) nE' (by k_mem) (by walk_at "ded sub") ?_ ?_
  walk_at "ded loop"
  · exact hP.lt
  · exact fr_done hb hg' hR hi (by assumption)
local macro_rules | `(tactic| walk_at "call ref") => `(tactic| (k_here; k_dflt (refine' ct_use (row_ct _ _ _ _ _ _ _ _ ?q1 ?p1 ?p2 ?p3 ?p4) ?k1 ?k2 ?k3 ?k4 ?k5 ?k6 ?k7 ?k8 ?_; (case k1 => k_asm); (case k2 => k_asm); (case k3 => k_asm); (case k4 => k_asm); (case k5 => k_asm); (case k6 => first | exact rfl | assumption); (case k7 => walk_at "ded room"); (case k8 => walk_at "ded room"); (case q1 => walk_at "ded mem"); (case p1 => walk_at "ded fact"); (case p2 => walk_at "ded fact"); (case p3 => walk_at "ded fact"); (case p4 => walk_at "ded fact"); k_whole); (unfold RRow; intro D' vs' c' h' tk' hI' F' N' l1; (try simp only [AllLt, and_true] at l1); (try dsimp only); (try k_sweep); (try k_fold))))
section
variable {prog : Program} {w : World} {A : Around} {E : Value → Shared → Prop} {s : Shared} {env : Env} {h₀ : Heap} {x : Str} {body : List Stmt} {Q : Flow → Shared → Prop}
def ForJ {σ : Type} (l : Addr) (vs : List Value) (nn : Nat) (Ld : σ → Led) (ps : σ → List (Str × Value)) (x : Str) (stored : List Str) (m₀ : Fm) (P : Nat → σ → Prop) (i : Nat) (m : Fm) (nx : Led) : Prop :=
  ∃ c : σ, nx = Ld c ∧ (∀ p ∈ ps c, m p.1 = some p.2) ∧ (∀ z, z ≠ x → (∀ p ∈ ps c, z ≠ p.1) → stored.contains z = false → m z = m₀ z) ∧ P i c
/-- a for over a list of the ledger, by what holds after i turns -/
theorem for_list {σ : Type} {l : Addr} {vs : List Value} {nn : Nat} {m₀ : Fm} (Ld : σ → Led) (ps : σ → List (Str × Value)) (stored : List Str) (P : Nat → σ → Prop) (c₀ : σ)
    (hh : A.handled = none) (hl : ∀ c, (l, listOf vs.toArray nn) ∈ Ld c) (F : Fr h₀ env.locals s.heap m₀) (N : News h₀ env.locals s.heap (Ld c₀)) (hk : ∀ p ∈ ps c₀, m₀ p.1 = some p.2) (hp : P 0 c₀)
    (turn : ∀ (c : σ) i v (u : Fm) h tk own, vs[i]? = some v → OwnOff own ((Ld c).map (·.1)) → P i c → Fr h₀ env.locals h (fun y => if y = x then some v else kstB (fun z => if stored.contains z then u z else m₀ z) (ps c) y) → News h₀ env.locals h (Ld c ++ own) →
      wpAny (model prog w) A (execs body env) (InvPostG h₀ env.locals (fun m' nx => (l, listOf vs.toArray nn) ∈ nx ∧ ForJ l vs nn Ld ps x stored m₀ P (i + 1) m' nx) own { s with heap := h, toks := tk } Q) E { s with heap := h, toks := tk })
    (done : ∀ (c : σ) (u : Fm) h tk, P vs.length c → Fr h₀ env.locals h (fun y => if y = x then u y else kstB (fun z => if stored.contains z then u z else m₀ z) (ps c) y) → News h₀ env.locals h (Ld c) → Q .next { s with heap := h, toks := tk }) :
    wpAny (model prog w) A (pyIter (.ref l)) (fun it s₂ => LoopAtV prog w A h₀ env x body Q E it s₂) E s := by
  refine kdl_iter (ForJ l vs nn Ld ps x stored m₀ P) hh (hl c₀) F N ⟨c₀, rfl, hk, fun _ _ _ _ => rfl, hp⟩ ?_ ?_
  · rintro i v m₁ news₁ h tk own hv hoff _ ⟨c, rfl, h1, h2, hp'⟩ F₁ N₁
    exact turn c i v m₁ h tk own hv hoff hp' (kst_fr h1 h2 F₁) N₁
  · rintro m₁ news₁ h tk ⟨c, rfl, h1, h2, hp'⟩ F₁ N₁
    exact done c m₁ h tk hp' (kst_frOut h1 h2 F₁) N₁
theorem for_end {σ : Type} {l : Addr} {vs : List Value} {nn : Nat} {Ld : σ → Led} {ps : σ → List (Str × Value)} {stored : List Str} {m₀ : Fm} {P : Nat → σ → Prop} {i : Nat} (c : σ) {L : Addr} {m' : Fm} {own news' : Led} {s₁ : Shared} {h' : Heap} {tk : Nat}
    (F : Fr h₀ L h' m') (N : News h₀ L h' news') (hn : ∀ p ∈ Ld c, p ∈ news') (ho : ∀ p ∈ own, p ∈ news') (ha : OwnOff own ((Ld c).map (·.1))) (hl : (l, listOf vs.toArray nn) ∈ Ld c) (hk : ∀ p ∈ ps c, m' p.1 = some p.2)
    (hr : ∀ z, z ≠ x → (∀ p ∈ ps c, z ≠ p.1) → stored.contains z = false → m' z = m₀ z) (hp : P i c) :
    InvEndG h₀ L (fun m' nx => (l, listOf vs.toArray nn) ∈ nx ∧ ForJ l vs nn Ld ps x stored m₀ P i m' nx) own s₁ { s₁ with heap := h', toks := tk } :=
  InvEndG.intro F N ⟨hl, c, rfl, hk, hr, hp⟩ ha hn ho
end
local macro_rules | `(tactic| walk_at "InvEndG") => `(tactic| k_extra "ded InvEndG")
local macro_rules | `(tactic| k_all) => `(tactic| assumption)
local macro_rules | `(tactic| k_all) => `(tactic| (refine List.forall_mem_append.mpr ⟨?dka, ?dkb⟩; (case dka => k_all); (case dkb => k_all)))
local macro_rules | `(tactic| k_all) => `(tactic| (refine' List.forall_mem_cons.mpr ⟨?dkc, ?dkd⟩; (case dkc => first | assumption | exact Ne.symm (by assumption)); (case dkd => k_all)))
theorem cm_snoc (l : List Int) (w : Int) : cm (l ++ [w]) = ⟨w * (cm l).p + (cm l).p', w * (cm l).q + (cm l).q', (cm l).p, (cm l).q⟩ := by
  induction l with
  | nil => simp [cm]
  | cons a l ih =>
    rw [List.cons_append]
    simp only [cm, ih]
    congr 1 <;> grind
theorem cm_nn (l : List Int) (h : ∀ n ∈ l, 0 ≤ n) : 0 ≤ (cm l).p ∧ 0 ≤ (cm l).q ∧ 0 ≤ (cm l).p' ∧ 0 ≤ (cm l).q' := by
  induction l with
  | nil => simp [cm]
  | cons a l ih =>
    obtain ⟨h1, h2, h3, h4⟩ := ih fun n hn => h n (.tail _ hn)
    have ha := h a (.head _)
    simp only [cm]
    have := Int.mul_nonneg ha h1
    have := Int.mul_nonneg ha h3
    omega
def RConv (news : Led) (ns : List Int) : Rt := fun h₀ L m s Q => ∀ (Fd D1 D2 : Addr) (us : List Value) (n : Nat) (k1 k2 k3 k4 : Tok) (c1 c2 : Nat) (h' : Heap) (tk' : Nat), us.length = ns.length → us[((-1 : Int) + us.length).toNat]? = some (.ref D1) → (us.length = 1 ∨ us[((-2 : Int) + us.length).toNat]? = some (.ref D2)) →
  Fr h₀ L h' m → News h₀ L h' ((Fd, listOf us.toArray n) :: (D1, tup [.int (cm ns).p k1, .int (cm ns).q k2] c1) :: (D2, tup [.int (cm ns).p' k3, .int (cm ns).q' k4] c2) :: news) → Q (.ref Fd) { s with heap := h', toks := tk' }
structure CvS where
  Fd : Addr
  D1 : Addr
  D2 : Addr
  us : List Value
  n : Nat
  p : Int
  q : Int
  p' : Int
  q' : Int
  k1 : Tok
  k2 : Tok
  k3 : Tok
  k4 : Tok
  c1 : Nat
  c2 : Nat
structure CvP (news : Led) (ns : List Int) (i : Nat) (s : CvS) : Prop where
  ne0 : ∀ p ∈ news, p.1 ≠ s.Fd
  ne1 : s.D1 ≠ s.Fd
  ne2 : s.D2 ≠ s.Fd
  len : s.us.length = i
  e : cm (ns.take i) = ⟨s.p, s.q, s.p', s.q'⟩
  a : 1 ≤ i → s.us[i - 1]? = some (.ref s.D1)
  b : 2 ≤ i → s.us[i - 2]? = some (.ref s.D2)
theorem cv_step {news : Led} {ns : List Int} {i : Nat} {x : Int} {Fd D1 D2 D3 : Addr} {us : List Value} {n n' : Nat} {p q p' q' : Int} {k1 k2 k3 k4 k5 k6 : Tok} {c1 c2 c3 : Nat} (h : CvP news ns i ⟨Fd, D1, D2, us, n, p, q, p', q', k1, k2, k3, k4, c1, c2⟩)
    (hx : ns[i]? = some x) (hne : D3 ≠ Fd) : CvP news ns (i + 1) ⟨Fd, D3, D1, us ++ [.ref D3], n', x * p + p', x * q + q', p, q, k5, k6, k1, k2, c3, c1⟩ := by
  have hl := h.len
  have he := h.e
  dsimp only at hl he
  refine ⟨h.ne0, hne, h.ne1, by simp [hl], ?_, ?_, ?_⟩
  · dsimp only
    have hs : ns.take (i + 1) = ns.take i ++ [x] := by simp [List.take_add_one, hx]
    rw [hs, cm_snoc, he]
  · intro _
    dsimp only
    rw [Nat.add_sub_cancel, List.getElem?_append_right (by omega), hl]; simp
  · intro h2
    dsimp only
    have e : i + 1 - 2 = i - 1 := by omega
    rw [e, List.getElem?_append_left (by omega)]
    exact h.a (by omega)
theorem cv_nn {news : Led} {ns : List Int} {i : Nat} {x : Int} {s : CvS} (h : CvP news ns i s) (hx : ns[i]? = some x) (hn : ∀ n ∈ ns, 0 ≤ n ∧ n < 2147483648) : 0 ≤ x ∧ x < 2147483648 ∧ 0 ≤ x * s.q + s.q' := by
  have hx' := hn x (List.mem_of_getElem? hx)
  have := cm_nn (ns.take i) fun n h => (hn n (List.mem_of_mem_take h)).1
  rw [h.e] at this
  obtain ⟨_, h2, _, h4⟩ := this
  dsimp only at h2 h4
  have := Int.mul_nonneg hx'.1 h2
  exact ⟨hx'.1, hx'.2, by omega⟩
theorem own_off {own news : Led} {Fd D3 D1 D2 : Addr} (h : OwnOff own (Fd :: D1 :: D2 :: news.map (·.1))) (hl : AllLt D3 (news ++ own)) : OwnOff own (Fd :: D3 :: D1 :: news.map (·.1)) := by
  intro p hp b hb
  rcases List.mem_cons.mp hb with rfl | hb
  · exact h p hp _ (.head _)
  rcases List.mem_cons.mp hb with rfl | hb
  · exact Nat.ne_of_lt (allLt_mem hl p (List.mem_append.mpr (.inr hp)))
  rcases List.mem_cons.mp hb with rfl | hb
  · exact h p hp _ (.tail _ (.head _))
  · exact h p hp _ (.tail _ (.tail _ (.tail _ hb)))
theorem rconv_end {h₀ h' : Heap} {L : Addr} {m : Fm} {s : Shared} {Q : Value → Shared → Prop} {news news' : Led} {tk' : Nat} {ns : List Int} {Fd D1 D2 : Addr} {us : List Value} {n i : Nat} {p q p' q' : Int} {k1 k2 k3 k4 : Tok} {c1 c2 : Nat} (hr : RConv news ns h₀ L m s Q) (hP : CvP news ns i ⟨Fd, D1, D2, us, n, p, q, p', q', k1, k2, k3, k4, c1, c2⟩)
    (hi : i = ns.length) (h0 : 1 ≤ ns.length) (F : Fr h₀ L h' m) (N : News h₀ L h' news')
    (hs : ∀ z ∈ (Fd, listOf us.toArray n) :: (D1, tup [.int p k1, .int q k2] c1) :: (D2, tup [.int p' k3, .int q' k4] c2) :: news, z ∈ news') : Q (.ref Fd) { s with heap := h', toks := tk' } := by
  subst hi
  have he := hP.e
  rw [List.take_length] at he
  have hl : us.length = ns.length := hP.len
  have e1 : ((-1 : Int) + us.length).toNat = ns.length - 1 := by omega
  have e2 : ((-2 : Int) + us.length).toNat = ns.length - 2 := by omega
  refine hr Fd D1 D2 us n k1 k2 k3 k4 c1 c2 h' tk' hP.len (by rw [e1]; exact hP.a h0) ?_ F (fun z hz => N z (hs z ?_))
  · by_cases h2 : ns.length = 1
    · exact .inl (by omega)
    · exact .inr (by rw [e2]; exact hP.b (by omega))
  rw [he] at hz
  exact hz
theorem conv_ct (w : World) (A : Addr) (vs : List Value) (ns : List Int) (nn : Nat) (news : Led) (hA : (A, listOf vs.toArray nn) ∈ news) (hi : IntsAre vs ns) (hn : ∀ n ∈ ns, 0 ≤ n ∧ n < 2147483648) (hlen : ns.length < 1000000) (h0 : 1 ≤ ns.length) :
    Ct w 111 2 [.ref A] news (RConv news ns) := by
  walk_at "ded enter"
  have hil := IntsAre.length hi
  k_with "pyIter ref" =>
    rename Fr _ _ _ _ => lF'
    rename News _ _ _ _ => lN'
    with_unfolding_all refine' for_list (l := A) (vs := vs) (nn := nn) (fun (c : CvS) => (c.Fd, listOf c.us.toArray c.n) :: (c.D1, tup [.int c.p c.k1, .int c.q c.k2] c.c1) :: (c.D2, tup [.int c.p' c.k3, .int c.q' c.k4] c.c2) :: news) (fun c => [(Str.ofString "found", .ref c.Fd), (Str.ofString "one", .ref c.D1), (Str.ofString "other", .ref c.D2)]) [] (fun i c => CvP news ns i c) ⟨_, _, _, [], 0, 1, 0, 0, 1, _, _, _, _, _, _⟩ ?kh ?kl lF' ?kn ?kk ?kp ?kturn ?kdone
    case kk => kst_all
    case kh => exact rfl
    case kl => exact fun _ => .tail _ (.tail _ (.tail _ hA))
    case kn => exact kst_newsOf lN' (List.forall_mem_cons.mpr ⟨by k_mem, List.forall_mem_cons.mpr ⟨by k_mem, List.forall_mem_cons.mpr ⟨by k_mem, by walk_at "ded sub"⟩⟩⟩)
    case kp =>
      refine ⟨fun p hp => Nat.ne_of_lt (‹∀ p ∈ news, p.1 < _› p hp), ?_, ?_, rfl, by simp [cm], fun h => absurd h (by omega), fun h => absurd h (by omega)⟩
      · refine neN ?_
        (try dsimp only); omega
      · refine neN ?_
        (try dsimp only); omega
    case' kturn =>
      clear lF' lN'
      rintro ⟨Fd, D1, D2, us, n, p, q, p', q', k1, k2, k3, k4, c1, c2⟩ i v u h tk own hv hoff hP F N
      obtain ⟨x, kx, rfl, hx⟩ := IntsAre.at hi i v hv
      obtain ⟨hx0, hx1, hq⟩ := cv_nn hP hx hn
      have hne0 := hP.ne0
      have hne1 := hP.ne1
      have hne2 := hP.ne2
      have hlen2 := hP.len
      have hi2 : i < ns.length := (List.getElem?_eq_some_iff.mp hx).1
      dsimp only [kstB] at F N hoff hne0 hne1 hne2 hlen2 hq ⊢
      simp only [List.cons_append, List.map_cons] at N hoff
    case' kdone =>
      clear lF' lN'
      rintro ⟨Fd, D1, D2, us, n, p, q, p', q', k1, k2, k3, k4, c1, c2⟩ u h tk hP F N
      dsimp only [kstB] at F N ⊢
  k_with "ded InvEndG" =>
    rename News _ _ _ _ => nE'
    (try simp only [List.push_toArray] at nE')
    refine' for_end ⟨_, _, _, _, _, _, _, _, _, _, _, _, _, _, _⟩ (by assumption) nE' ?kn ?ko ?ka ?kl ?kk (by kst_same) ?kp
    case kk => kst_all
    case kn => exact List.forall_mem_cons.mpr ⟨by k_mem, List.forall_mem_cons.mpr ⟨by k_mem, List.forall_mem_cons.mpr ⟨by k_mem, by walk_at "ded sub"⟩⟩⟩
    case ko => walk_at "ded sub"
    case kl => exact .tail _ (.tail _ (.tail _ hA))
    case ka =>
      refine own_off hoff ?_
      walk_at "ded lt"
    case kp =>
      refine cv_step hP hx ?_
      refine neN ?_
      omega
  k_with "ded ret end" =>
    with_reducible rename RConv _ _ _ _ _ _ _ => hRc
    refine rconv_end hRc hP hil h0 (by assumption) (by assumption) (by walk_at "ded sub")
  walk_at "ded loop"
local macro_rules | `(tactic| walk_at "call ref") => `(tactic| (k_here; k_dflt (refine' ct_use (conv_ct _ _ _ _ _ _ ?q1 ?p1 ?p2 ?p3 ?p4) ?k1 ?k2 ?k3 ?k4 ?k5 ?k6 ?k7 ?k8 ?_; (case k1 => k_asm); (case k2 => k_asm); (case k3 => k_asm); (case k4 => k_asm); (case k5 => k_asm); (case k6 => first | exact rfl | assumption); (case k7 => walk_at "ded room"); (case k8 => walk_at "ded room"); (case q1 => walk_at "ded mem"); (case p1 => walk_at "ded fact"); (case p2 => walk_at "ded fact"); (case p3 => walk_at "ded fact"); (case p4 => walk_at "ded fact"); k_whole); (unfold RConv; intro Fd' D1' D2' us' n' k1' k2' k3' k4' c1' c2' h' tk' ul' ux1' ux2' F' N'; (try dsimp only); (try k_sweep); (try k_fold))))
section
variable {prog : Program} {w : World} {A : Around} {E : Value → Shared → Prop} {s : Shared} {h₀ : Heap} {L l : Addr} {news : Led} {us : List Value} {n : Nat} {x : Value}
theorem item_neg {value slice : PySem.Expr} {k : Int} {u : Tok} {Q : Value → Shared → Prop} (N : News h₀ L s.heap news) (hm : (l, listOf us.toArray n) ∈ news) (hx : us[(k + us.length).toNat]? = some x) (h0 : k < 0) (h1 : -(us.length : Int) ≤ k) (h2 : -1000000 < k) (h : Q x s)
    (hs : subscripted slice false (.ref l) (.int k u) = operate [.ref l, .int k u] (getItem (.ref l) (.int k u))) : wpAny (model prog w) A (subscriptTail value slice (.ref l) (.int k u)) Q E s := by
  have hl : s.heap.IsList l us.toArray := ⟨_, (N _ hm).1, rfl, n, rfl⟩
  exact tail_any hl.typeIs slot_list_getitem.lookup (wpAny_getItem_list_neg hl h0 (by simpa using h1) (by omega) (by simpa using hx) h) hs
theorem item_pos {value slice : PySem.Expr} {k : Int} {u : Tok} {Q : Value → Shared → Prop} (N : News h₀ L s.heap news) (hm : (l, listOf us.toArray n) ∈ news) (hx : us[k.toNat]? = some x) (h0 : 0 ≤ k) (h2 : k < 1000000) (h : Q x s)
    (hs : subscripted slice false (.ref l) (.int k u) = operate [.ref l, .int k u] (getItem (.ref l) (.int k u))) : wpAny (model prog w) A (subscriptTail value slice (.ref l) (.int k u)) Q E s := by
  have hl : s.heap.IsList l us.toArray := ⟨_, (N _ hm).1, rfl, n, rfl⟩
  exact tail_any hl.typeIs slot_list_getitem.lookup (wpAny_getItem_list hl h0 (by omega) (by simpa using hx) h) hs
theorem len_led {Q : Value → Shared → Prop} (N : News h₀ L s.heap news) (hm : (l, listOf us.toArray n) ∈ news) (hfit : us.length < 1000000) (h : Q (.int (us.length : Int) (s.toks + 1)) { s with toks := s.toks + 1 + 1 }) :
    wpAny (model prog w) A (call (.builtin "len") [.ref l]) Q E s := by
  have hl : s.heap.IsList l us.toArray := ⟨_, (N _ hm).1, rfl, n, rfl⟩
  exact PyProof.Rows.len_list hl (by rw [List.size_toArray]; omega) (by rw [List.size_toArray]; exact h)
end
local macro_rules | `(tactic| walk_at "subscriptTail") => `(tactic| (k_here; (with_reducible show wpAny _ _ (subscriptTail _ _ (Value.ref _) (Value.int _ _)) _ _ _); (with_unfolding_all refine' item_neg ?k1 ?k2 ?k3 ?k4 ?k5 ?k7 ?_ ?k6; (case k1 => k_asm); (case k2 => walk_at "ded mem"); (case k3 => first | assumption | exact Or.resolve_left (by assumption) (by omega)); (case k4 => decide); (case k5 => omega); (case k7 => decide); (case k6 => with_unfolding_all rfl); k_whole)))
local macro_rules | `(tactic| walk_at "subscriptTail") => `(tactic| (k_here; (with_reducible show wpAny _ _ (subscriptTail _ _ (Value.ref _) (Value.int _ _)) _ _ _); (with_unfolding_all refine' item_pos ?k1 ?k2 ?k3 ?k4 ?k5 ?_ ?k6; (case k1 => k_asm); (case k2 => walk_at "ded mem"); (case k3 => first | assumption | exact Or.resolve_left (by assumption) (by omega)); (case k4 => omega); (case k5 => omega); (case k6 => with_unfolding_all rfl); k_whole)))
local macro_rules | `(tactic| walk_at "call builtin:len") => `(tactic| (k_here; (with_reducible show wpAny _ _ (call (Value.builtin "len") [Value.ref _]) _ _ _); k_dflt (refine' len_led ?k1 ?k2 ?k3 ?_; (case k1 => k_asm); (case k2 => walk_at "ded mem"); (case k3 => omega); k_whole)))
local macro_rules | `(tactic| walk_at "InvEndN") => `(tactic| k_extra "ded InvEndN")
theorem value_ct (w : World) (A : Addr) (vs : List Value) (ns : List Int) (nn : Nat) (news : Led) (hA : (A, listOf vs.toArray nn) ∈ news) (hi : IntsAre vs ns) (hn : ∀ n ∈ ns, 0 ≤ n ∧ n < 2147483648) (hlen : ns.length < 1000000) (h0 : 1 ≤ ns.length)
    (hq : 0 < (cm ns).q) (hq' : (cm ns).q < 2147483648) : Ct w 118 8 [.ref A] news (RT2 news (rx (cm ns).p (cm ns).q) (ry (cm ns).p (cm ns).q)) := by
  walk_at "ded enter"
  have hil := IntsAre.length hi
  k_with "ded fact" => assumption
  walk_at "ded loop"
local macro_rules | `(tactic| walk_at "call ref") => `(tactic| (k_here; k_dflt (refine' ct_use (value_ct _ _ _ _ _ _ ?q1 ?p1 ?p2 ?p3 ?p4 ?p5 ?p6) ?k1 ?k2 ?k3 ?k4 ?k5 ?k6 ?k7 ?k8 ?_; (case k1 => k_asm); (case k2 => k_asm); (case k3 => k_asm); (case k4 => k_asm); (case k5 => k_asm); (case k6 => first | exact rfl | assumption); (case k7 => walk_at "ded room"); (case k8 => walk_at "ded room"); (case q1 => walk_at "ded mem"); (case p1 => walk_at "ded fact"); (case p2 => walk_at "ded fact"); (case p3 => walk_at "ded fact"); (case p4 => walk_at "ded fact"); (case p5 => walk_at "ded fact"); (case p6 => walk_at "ded fact"); k_whole); walk_at "ded ret"))
theorem cf_items (B : Nat) : ∀ (b a : Nat), a < B → b < B → ∀ n ∈ cf a b, 0 ≤ n ∧ n < (B : Int) := by
  intro b
  induction b using Nat.strongRecOn with
  | _ b ih =>
    intro a ha hb n hn
    by_cases h0 : b = 0
    · rw [h0, cf_zero] at hn; cases hn
    · have hb0 : 0 < b := Nat.pos_of_ne_zero h0
      rw [cf_pos a b hb0] at hn
      rcases List.mem_cons.mp hn with rfl | hn
      · have h1 := Nat.div_le_self a b
        have h2 : ((a / b : Nat) : Int) < B := Int.ofNat_lt.mpr (Nat.lt_of_le_of_lt h1 ha)
        exact ⟨Int.natCast_nonneg _, h2⟩
      · exact ih (a % b) (Nat.mod_lt _ hb0) b hb (Nat.lt_trans (Nat.mod_lt _ hb0) hb) n hn
theorem cf_len : ∀ (b a : Nat), (cf a b).length ≤ b := by
  intro b
  induction b using Nat.strongRecOn with
  | _ b ih =>
    intro a
    by_cases h0 : b = 0
    · rw [h0, cf_zero]; simp
    · have hb0 : 0 < b := Nat.pos_of_ne_zero h0
      rw [cf_pos a b hb0, List.length_cons]
      have h1 := ih (a % b) (Nat.mod_lt _ hb0) b
      have h2 := Nat.mod_lt a hb0
      omega
theorem cf_two {h k : Nat} (h0 : 0 < h) (h1 : h < k) : 2 ≤ (cf h k).length := by
  rw [cf_lt h k h1, cf_pos k h h0]; simp
theorem alt_take (l : List Int) : ∀ (j : Nat) (x : Int), l[j]? = some x → alt (l.take (j + 1)) = alt (l.take j) + (if j % 2 = 0 then x else 0 - x) := by
  induction l with
  | nil => intro j x h; cases h
  | cons a l ih =>
    intro j x h
    cases j with
    | zero => simp at h; subst h; simp [alt]
    | succ j =>
      have h' : l[j]? = some x := by simpa using h
      have := ih j x h'
      rw [List.take_succ_cons, List.take_succ_cons]
      simp only [alt]
      rw [this]
      by_cases hp : j % 2 = 0
      · rw [if_pos hp, if_neg (by omega)]; omega
      · rw [if_neg hp, if_pos (by omega)]; omega
/-- one turn of the sum with signs by turns -/
theorem sum_turn {R : List Int} {pre : List Int} {k x t : Int} (hk : k = 1 + (pre.length : Int)) (hx : R[k.toNat]? = some x) (ht : t = alt (R.tail.take pre.length)) :
    (t + (if Int.fmod k 2 = 1 then x else 0 - x)) = alt (R.tail.take (pre ++ [k]).length) := by
  have e : k.toNat = pre.length + 1 := by omega
  rw [e] at hx
  have hx' : R.tail[pre.length]? = some x := by rw [List.getElem?_tail]; exact hx
  rw [List.length_append, List.length_singleton, alt_take R.tail pre.length x hx', ht]
  congr 1
  have : Int.fmod k 2 = k % 2 := Int.fmod_eq_emod_of_nonneg _ (by omega)
  rw [this]
  by_cases hp : pre.length % 2 = 0
  · rw [if_pos hp, if_pos (by omega)]
  · rw [if_neg hp, if_neg (by omega)]
theorem sum_turn_a {R : List Int} {pre : List Int} {k x t : Int} (hk : k = 1 + (pre.length : Int)) (hx : R[k.toNat]? = some x) (ht : t = alt (R.tail.take pre.length)) (h : Int.fmod k 2 = 1) : t + x = alt (R.tail.take (pre ++ [k]).length) := by
  have := sum_turn hk hx ht
  rwa [if_pos h] at this
theorem sum_turn_b {R : List Int} {pre : List Int} {k x t : Int} (hk : k = 1 + (pre.length : Int)) (hx : R[k.toNat]? = some x) (ht : t = alt (R.tail.take pre.length)) (h : ¬ Int.fmod k 2 = 1) : t + (0 - x) = alt (R.tail.take (pre ++ [k]).length) := by
  have := sum_turn hk hx ht
  rwa [if_neg h] at this
theorem told_even {h k : Nat} {t : Int} (ht : t = alt ((cf h k).tail.take ((cf h k).length - 1))) (hp : (cf h k).length % 2 = 0) : (k : Int) * (t - 3) + h + (cm (cf h k)).q' = T h k := by
  unfold T tl
  rw [if_pos hp, ht]
  congr 5
  exact List.take_of_length_le (by simp)
theorem told_odd {h k : Nat} {t : Int} (ht : t = alt ((cf h k).tail.take ((cf h k).length - 1))) (hp : ¬ (cf h k).length % 2 = 0) : (k : Int) * t + h - (cm (cf h k)).q' = T h k := by
  unfold T tl
  rw [if_neg hp, ht]
  congr 4
  exact List.take_of_length_le (by simp)
theorem told_ct (w : World) (h k : Nat) (uh uk : Tok) (news : Led) (hk0 : 0 < k) (hk : h < k) (hk' : k < 100000) (hg : Nat.gcd h k = 1) : Ct w 144 14 [.int (h : Int) uh, .int (k : Int) uk] news (RI news (T h k)) := by
  walk_at "ded enter"
  have hh0 : k = 1 ∨ 0 < h := by
    by_cases hz : h = 0
    · subst hz; simp at hg; exact .inl hg
    · exact .inr (Nat.pos_of_ne_zero hz)
  have hlen := cf_len k h
  have hlen2 : k = 1 ∨ 2 ≤ (cf h k).length := hh0.imp id fun h0 => cf_two h0 hk
  have hlen3 : (cf h k).length < 1000000 := by omega
  have hlen4 : 1 ≤ (cf h k).length := by rw [cf_pos h k hk0]; simp
  have hit : ∀ n ∈ cf h k, 0 ≤ n ∧ n < (2147483648 : Int) := cf_items 2147483648 k h (by omega) (by omega)
  k_with "pyIter ref" =>
    k_dflt (
      rename Fr _ _ _ _ => lF'
      rename News _ _ _ _ => lN'
      with_reducible rename IsRange _ _ _ _ _ _ _ _ => rgX
      with_reducible rename IntsAre _ (cf h k) => hI
      have hIl := IntsAre.length hI
      with_unfolding_all refine' kst_range (Function.const (Int × Tok) ?led) (fun c => [(Str.ofString "total", .int c.1 c.2)]) (fun _ => True) [] (fun pre c => c.1 = alt ((cf h k).tail.take pre.length)) (0, _) ?kh rgX ?ks ?kz lF' ?kn ?kf ?kk ?kp ?kturn ?kdone
      case kh => exact rfl
      case ks => exact small_one (by omega) (by omega) (by omega) (by omega)
      case kz => exact rangeSize_nat _ _
      case kn => exact lN'
      case kf => trivial
      case kk => kst_all
      case kp => simp [alt]
      case' kturn =>
        clear lF' lN'
        rintro ⟨tot, tt⟩ pre at9 t9 u h9 tk9 own hk9 hlt9 hoff - hP F N
        dsimp only [kstB, Function.const] at F N hoff hP ⊢
        have hx9 : ∃ x, (cf h k)[at9.toNat]? = some x := ⟨_, List.getElem?_eq_getElem (by omega)⟩
        obtain ⟨x9, hx9⟩ := hx9
        obtain ⟨tx9, hv9⟩ := IntsAre.get hI _ _ hx9
      case' kdone =>
        clear lF' lN'
        rintro ⟨tot, tt⟩ u h9 tk9 - hP F N
        dsimp only [kstB, Function.const] at F N hP ⊢
        have hP2 : tot = alt ((cf h k).tail.take ((cf h k).length - 1)) := by
          rw [hP, rangeKs_length]
          congr 2
          (try simp only [List.size_toArray, hIl])
          omega
        clear hP)
  k_with "ded InvEndN" =>
    k_dflt (
      rename News _ _ _ _ => nE'
      refine' kst_end ⟨_, _⟩ (by assumption) nE' ?kn ?ko ?ka trivial ?kk ?kr ?kp
      case kk => kst_all
      case ka => exact rfl
      case kn => exact fun p hp => List.mem_append.mpr (Or.inl hp)
      case ko => exact fun p hp => List.mem_append.mpr (Or.inr hp)
      case kr => kst_same
      case kp => first | exact sum_turn_a hk9 hx9 hP (by assumption) | exact sum_turn_b hk9 hx9 hP (by assumption))
  walk_at "ded loop"
  · rename (k : Int) = 1 => hk1
    have hk2 : k = 1 := by omega
    have hh2 : h = 0 := by omega
    rw [hk2, hh2, T_zero]
  · exact told_even hP2 (by rename Int.fmod _ 2 = 0 => hz; rw [Int.fmod_eq_emod_of_nonneg _ (by omega)] at hz; omega)
  · exact told_odd hP2 (by rename ¬ Int.fmod _ 2 = 0 => hz; rw [Int.fmod_eq_emod_of_nonneg _ (by omega)] at hz; omega)
theorem toldx_ct (w : World) (x y : Int) (h k : Nat) (ux uy : Tok) (news : Led) (hx : x = (h : Int)) (hy : y = (k : Int)) (hk0 : 0 < k) (hk : h < k) (hk' : k < 100000) (hg : Nat.gcd h k = 1) : Ct w 144 14 [.int x ux, .int y uy] news (RI news (T h k)) := by
  subst hx hy
  exact told_ct w h k ux uy news hk0 hk hk' hg
local macro_rules | `(tactic| walk_at "call ref") => `(tactic| (k_here; k_dflt (refine' ct_use (toldx_ct _ _ _ _ _ _ _ _ ?p1 ?p2 ?p3 ?p4 ?p5 ?p6) ?k1 ?k2 ?k3 ?k4 ?k5 ?k6 ?k7 ?k8 ?_; (case k1 => k_asm); (case k2 => k_asm); (case k3 => k_asm); (case k4 => k_asm); (case k5 => k_asm); (case k6 => first | exact rfl | assumption); (case k7 => walk_at "ded room"); (case k8 => walk_at "ded room"); (case p1 => first | with_reducible assumption | exact rfl); (case p2 => first | with_reducible assumption | exact rfl); (case p3 => walk_at "ded fact"); (case p4 => walk_at "ded fact"); (case p5 => walk_at "ded fact"); (case p6 => walk_at "ded fact"); k_whole); walk_at "ded ret"))
theorem inv_gcd {h g k e : Nat} (h1 : h * g = 1 + k * e) : Nat.gcd g k = 1 := gcd_of_inv (by rw [Nat.mul_comm]; exact h1)
theorem inv_mod {h g k e : Nat} (h0 : 0 < h) (h1 : h < k) (he : h * g = 1 + k * e) : Int.fmod (T h k - h - g) k = 0 := by
  rw [Int.fmod_eq_emod_of_nonneg _ (by omega)]; exact T_mod h k g e h0 h1 he
theorem fd_eq {x g y : Int} (hg : 0 < g) (hx : x = g * y) : Int.fdiv x g = y := by
  rw [Int.fdiv_eq_ediv_of_nonneg _ (by omega), hx]
  exact Int.mul_ediv_cancel_left y (by omega)
theorem ry_bnd {a b : Int} (hb : 0 < b) : 0 < ry a b ∧ ry a b ≤ b := by
  unfold ry
  have hg := gcd_pos (a := a) hb
  obtain ⟨c, hc⟩ : (Int.gcd a b : Int) ∣ b := Int.gcd_dvd_right ..
  rw [fd_eq hg hc]
  generalize (Int.gcd a b : Int) = g at *
  have hcpos : 0 < c := by
    refine Decidable.byContradiction fun hn => ?_
    have : g * c ≤ g * 0 := Int.mul_le_mul_of_nonneg_left (by omega) (by omega)
    omega
  refine ⟨hcpos, ?_⟩
  have : 1 * c ≤ g * c := Int.mul_le_mul_of_nonneg_right (by omega) (by omega)
  omega
theorem rxy {a b : Int} (hb : 0 < b) : rx a b * b = a * ry a b := by
  unfold rx ry
  have hg := gcd_pos (a := a) hb
  obtain ⟨c, hc⟩ : (Int.gcd a b : Int) ∣ b := Int.gcd_dvd_right ..
  obtain ⟨d, hd⟩ : (Int.gcd a b : Int) ∣ a := Int.gcd_dvd_left ..
  rw [fd_eq hg hc, fd_eq hg hd]
  generalize (Int.gcd a b : Int) = g at *
  rw [hc, hd]
  grind
theorem gcd_cross {a b c d : Int} (hb : 0 < b) (hd : 0 < d) (h : a * d = c * b) : (Int.gcd a b : Int) * d = (Int.gcd c d : Int) * b := by
  have e1 : (Int.gcd (a * d) (b * d) : Int) = Int.gcd a b * d := by
    rw [Int.gcd_mul_right, Int.natCast_mul, Int.natAbs_of_nonneg (by omega)]
  have e2 : (Int.gcd (c * b) (d * b) : Int) = Int.gcd c d * b := by
    rw [Int.gcd_mul_right, Int.natCast_mul, Int.natAbs_of_nonneg (by omega)]
  rw [← e1, ← e2, h, Int.mul_comm b d]
theorem rat_eq {a b c d : Int} (hb : 0 < b) (hd : 0 < d) (h : a * d = c * b) : rx a b = rx c d ∧ ry a b = ry c d := by
  have k := gcd_cross hb hd h
  have hg1 := gcd_pos (a := a) hb
  have hg2 := gcd_pos (a := c) hd
  obtain ⟨p, hp⟩ : (Int.gcd a b : Int) ∣ b := Int.gcd_dvd_right ..
  obtain ⟨q, hq⟩ : (Int.gcd a b : Int) ∣ a := Int.gcd_dvd_left ..
  obtain ⟨p', hp'⟩ : (Int.gcd c d : Int) ∣ d := Int.gcd_dvd_right ..
  obtain ⟨q', hq'⟩ : (Int.gcd c d : Int) ∣ c := Int.gcd_dvd_left ..
  unfold rx ry
  rw [fd_eq hg1 hq, fd_eq hg1 hp, fd_eq hg2 hq', fd_eq hg2 hp']
  generalize (Int.gcd a b : Int) = g at *
  generalize (Int.gcd c d : Int) = g' at *
  have hpp : p = p' := by
    apply cancel (a := g * g') (Int.mul_ne_zero (by omega) (by omega))
    have t1 : g * g' * p = g' * b := by rw [hp]; grind
    have t2 : g * g' * p' = g * d := by rw [hp']; grind
    rw [t1, t2, k]
  subst hpp
  refine ⟨?_, rfl⟩
  have hpn : p ≠ 0 := by intro h0; rw [h0, Int.mul_zero] at hp; omega
  apply cancel (a := g * g' * p) (Int.mul_ne_zero (Int.mul_ne_zero (by omega) (by omega)) hpn)
  have t1 : g * g' * p * q = a * d := by rw [hq, hp']; grind
  have t2 : g * g' * p * q' = c * b := by rw [hq', hp]; grind
  rw [t1, t2, h]
theorem both_alg {a b X Y n1 n2 n3 d1 d2 d3 : Int} (hne : 12 * a * b ≠ 0) (r : a * X + b * Y = a * a + b * b + 1 - 3 * a * b) (e1 : n1 * (12 * b) = X * d1) (e2 : n2 * (12 * a) = Y * d2) (e3 : n3 * (12 * a * b) = (a * a + b * b + 1) * d3) :
    (n1 * d2 + n2 * d1) * (d3 * 4) = (n3 * 4 - 1 * d3) * (d1 * d2) := by
  apply cancel (a := 12 * a * b) hne
  have s1 : 12 * a * b * ((n1 * d2 + n2 * d1) * (d3 * 4)) = (a * (n1 * (12 * b)) * d2 + b * (n2 * (12 * a)) * d1) * (d3 * 4) := by clear e1 e2 e3 r hne; grind
  have s2 : 12 * a * b * ((n3 * 4 - 1 * d3) * (d1 * d2)) = (4 * (n3 * (12 * a * b)) - 12 * a * b * d3) * (d1 * d2) := by clear e1 e2 e3 r hne s1; grind
  rw [s1, s2, e1, e2, e3]
  have s3 : (a * (X * d1) * d2 + b * (Y * d2) * d1) * (d3 * 4) = (a * X + b * Y) * (d1 * d2 * d3 * 4) := by clear e1 e2 e3 r hne s1 s2; grind
  rw [s3, r]
  clear e1 e2 e3 r hne s1 s2 s3
  grind
/-- reciprocity as the ratios have it -/
theorem both_eq {h k : Nat} (h0 : 0 < h) (h1 : h < k) (hg : Nat.gcd h k = 1) :
    rx (rx (T h k) (12 * (k : Int)) * ry (T (k % h) h) (12 * (h : Int)) + rx (T (k % h) h) (12 * (h : Int)) * ry (T h k) (12 * (k : Int))) (ry (T h k) (12 * (k : Int)) * ry (T (k % h) h) (12 * (h : Int))) =
      rx (rx ((h : Int) * h + k * k + 1) (12 * h * k) * 4 - 1 * ry ((h : Int) * h + k * k + 1) (12 * h * k)) (ry ((h : Int) * h + k * k + 1) (12 * h * k) * 4) ∧
    ry (rx (T h k) (12 * (k : Int)) * ry (T (k % h) h) (12 * (h : Int)) + rx (T (k % h) h) (12 * (h : Int)) * ry (T h k) (12 * (k : Int))) (ry (T h k) (12 * (k : Int)) * ry (T (k % h) h) (12 * (h : Int))) =
      ry (rx ((h : Int) * h + k * k + 1) (12 * h * k) * 4 - 1 * ry ((h : Int) * h + k * k + 1) (12 * h * k)) (ry ((h : Int) * h + k * k + 1) (12 * h * k) * 4) := by
  have r := recip h k h0 h1 hg
  have hk0 : (0 : Int) < k := by omega
  have hh0 : (0 : Int) < h := by omega
  have hhk : (0 : Int) < 12 * h * k := Int.mul_pos (by omega) hk0
  have b1 := ry_bnd (a := T h k) (b := 12 * (k : Int)) (by omega)
  have b2 := ry_bnd (a := T (k % h) h) (b := 12 * (h : Int)) (by omega)
  have b3 := ry_bnd (a := (h : Int) * h + k * k + 1) (b := 12 * (h : Int) * k) hhk
  have e1 := rxy (a := T h k) (b := 12 * (k : Int)) (by omega)
  have e2 := rxy (a := T (k % h) h) (b := 12 * (h : Int)) (by omega)
  have e3 := rxy (a := (h : Int) * h + k * k + 1) (b := 12 * (h : Int) * k) hhk
  refine rat_eq (Int.mul_pos b1.1 b2.1) (by omega) ?_
  generalize rx (T h k) (12 * (k : Int)) = n1 at *
  generalize ry (T h k) (12 * (k : Int)) = d1 at *
  generalize rx (T (k % h) h) (12 * (h : Int)) = n2 at *
  generalize ry (T (k % h) h) (12 * (h : Int)) = d2 at *
  generalize rx ((h : Int) * h + k * k + 1) (12 * h * k) = n3 at *
  generalize ry ((h : Int) * h + k * k + 1) (12 * h * k) = d3 at *
  generalize T h k = X at *
  generalize T (k % h) h = Y at *
  generalize (h : Int) = a at *
  generalize (k : Int) = b at *
  exact both_alg (by omega) r e1 e2 e3
local macro_rules | `(tactic| walk_at "call ref") => `(tactic| (k_here; k_dflt (refine' ct_use (inverse_ct _ _ _ _ _ _ ?p1 ?p2 ?p3 ?p4) ?k1 ?k2 ?k3 ?k4 ?k5 ?k6 ?k7 ?k8 ?_; (case k1 => k_asm); (case k2 => k_asm); (case k3 => k_asm); (case k4 => k_asm); (case k5 => k_asm); (case k6 => first | exact rfl | assumption); (case k7 => walk_at "ded room"); (case k8 => walk_at "ded room"); (case p1 => walk_at "ded fact"); (case p2 => walk_at "ded fact"); (case p3 => walk_at "ded fact"); (case p4 => walk_at "ded fact"); k_whole); (unfold RInv; intro t' g' e' h' tk' g0' g1' e1' F' N'; (have gg' := inv_gcd e1'); (have gt' := symm_inv _ _ _ _ (by assumption) (by assumption) g0' g1' e1'); (have gm' := inv_mod (by assumption) (by assumption) e1'); (try dsimp only); (try k_sweep); (try k_fold))))
theorem goes_ct (w : World) (h k : Nat) (uh uk : Tok) (news : Led) (h0 : 0 < h) (h1 : h < k) (hk' : k < 6000) (hg : Nat.gcd h k = 1) : Ct w 151 24 [.int (h : Int) uh, .int (k : Int) uk] news (RB news true) := by
  walk_at "ded enter"
  have hk0 : 0 < k := by omega
  have hm := Nat.mod_lt k h0
  have gm := gcd_mod hg
  have hfm : Int.fmod (k : Int) (h : Int) = ((k % h : Nat) : Int) := by rw [Int.fmod_eq_emod_of_nonneg _ (by omega)]; simp
  have hsb : (k : Int) - (h : Int) = ((k - h : Nat) : Int) := by omega
  have gs := gcd_subr (Nat.le_of_lt h1) hg
  have r1 := ry_bnd (a := T h k) (b := 12 * (k : Int)) (by omega)
  have r2 := ry_bnd (a := T (k % h) h) (b := 12 * (h : Int)) (by omega)
  have hhk1 : 0 < 12 * (h : Int) * k := Int.mul_pos (by omega) (by omega)
  have hhk2 : 12 * (h : Int) * k < 500000000 := by
    have : 12 * (h : Int) * k ≤ 72000 * k := Int.mul_le_mul_of_nonneg_right (by omega) (by omega)
    omega
  have r3 := ry_bnd (a := (h : Int) * h + k * k + 1) (b := 12 * (h : Int) * k) hhk1
  obtain ⟨q1, q2⟩ := both_eq h0 h1 hg
  have ho := odd h k h0 h1 hg
  have hlen3 : (cf h k).length < 1000000 := by have := cf_len k h; omega
  have hlen4 : 1 ≤ (cf h k).length := by rw [cf_pos h k hk0]; simp
  have hit : ∀ n ∈ cf h k, 0 ≤ n ∧ n < (2147483648 : Int) := cf_items 2147483648 k h (by omega) (by omega)
  obtain ⟨cp, cq⟩ := cm_cf k h hk0 hg
  have v1 : rx (cm (cf h k)).p (cm (cf h k)).q = (h : Int) := by rw [cp, cq]; exact (rx_one (x := (h : Int)) (y := k) hg).1
  have v2 : ry (cm (cf h k)).p (cm (cf h k)).q = (k : Int) := by rw [cp, cq]; exact (rx_one (x := (h : Int)) (y := k) hg).2
  walk_at "ded loop"
  · exact beq_iff_eq.mpr (by assumption)
  · rename (_ && _) = false => hz
    rw [v1, v2] at hz
    simp at hz
  · rename (_ && _) = false => hz
    rw [q1, q2] at hz
    simp at hz
structure PwS where
  f : Int
  q : Int
  n : Int
  k1 : Tok
  k2 : Tok
  k3 : Tok
structure PwP (A N M : Nat) (s : PwS) : Prop where
  ex : ∃ f q n : Nat, s.f = f ∧ s.q = q ∧ s.n = n ∧ f < M ∧ q < M ∧ f * q ^ n % M = A ^ N % M
theorem pw_start {A N M : Nat} {k1 k2 k3 : Tok} (hM : 0 < M) : PwP A N M ⟨Int.fmod 1 M, Int.fmod A M, N, k1, k2, k3⟩ := by
  refine ⟨1 % M, A % M, N, ?_, ?_, rfl, Nat.mod_lt _ hM, Nat.mod_lt _ hM, ?_⟩
  · dsimp only; rw [Int.fmod_eq_emod_of_nonneg _ (by omega)]; simp
  · dsimp only; rw [Int.fmod_eq_emod_of_nonneg _ (by omega)]; simp
  · rw [Nat.mul_mod, ← Nat.pow_mod, Nat.mod_mod, ← Nat.mul_mod, Nat.one_mul]
theorem pw_sq (f q n M : Nat) (hn : n % 2 = 0) : f * (q * q % M) ^ (n / 2) % M = f * q ^ n % M := by
  have e : n = 2 * (n / 2) := by omega
  conv => rhs; rw [e, Nat.pow_mul, Nat.pow_two]
  rw [Nat.mul_mod, ← Nat.pow_mod, ← Nat.mul_mod]
theorem pw_odd (f q n M : Nat) (hn : n % 2 = 1) : (f * q % M) * (q * q % M) ^ (n / 2) % M = f * q ^ n % M := by
  have e : n = 2 * (n / 2) + 1 := by omega
  conv => rhs; rw [e, Nat.pow_succ, Nat.pow_mul, Nat.pow_two]
  rw [Nat.mul_mod, Nat.mod_mod, ← Nat.pow_mod, ← Nat.mul_mod]
  congr 1
  rw [Nat.mul_assoc, Nat.mul_comm q]
theorem pw_a {A N M f q n : Nat} {k1 k2 k3 : Tok} (hM : 0 < M) (he : f * q ^ n % M = A ^ N % M) (h : Int.fmod (n : Int) 2 = 1) : PwP A N M ⟨Int.fmod ((f : Int) * q) M, Int.fmod ((q : Int) * q) M, Int.fdiv (n : Int) 2, k1, k2, k3⟩ := by
  rw [Int.fmod_eq_emod_of_nonneg _ (by omega)] at h
  refine ⟨f * q % M, q * q % M, n / 2, ?_, ?_, ?_, Nat.mod_lt _ hM, Nat.mod_lt _ hM, ?_⟩
  · dsimp only; rw [Int.fmod_eq_emod_of_nonneg _ (by omega)]; simp
  · dsimp only; rw [Int.fmod_eq_emod_of_nonneg _ (by omega)]; simp
  · dsimp only; rw [Int.fdiv_eq_ediv_of_nonneg _ (by omega)]; simp
  · rw [pw_odd f q n M (by omega)]; exact he
theorem pw_b {A N M f q n : Nat} {k1 k2 k3 : Tok} (hM : 0 < M) (hf : f < M) (he : f * q ^ n % M = A ^ N % M) (h : ¬ Int.fmod (n : Int) 2 = 1) : PwP A N M ⟨(f : Int), Int.fmod ((q : Int) * q) M, Int.fdiv (n : Int) 2, k1, k2, k3⟩ := by
  rw [Int.fmod_eq_emod_of_nonneg _ (by omega)] at h
  refine ⟨f, q * q % M, n / 2, rfl, ?_, ?_, hf, Nat.mod_lt _ hM, ?_⟩
  · dsimp only; rw [Int.fmod_eq_emod_of_nonneg _ (by omega)]; simp
  · dsimp only; rw [Int.fdiv_eq_ediv_of_nonneg _ (by omega)]; simp
  · rw [pw_sq f q n M (by omega)]; exact he
theorem pw_less {n : Nat} (h : (n : Int) > 0) : (Int.fdiv (n : Int) 2).toNat < ((n : Int)).toNat := by
  rw [Int.fdiv_eq_ediv_of_nonneg _ (by omega)]; omega
theorem pow_ct (w : World) (a n m : Nat) (ua un um : Tok) (news : Led) (hm : 0 < m) (hm' : m < 1000000) : Ct w 55 2 [.int (a : Int) ua, .int (n : Int) un, .int (m : Int) um] news (RI news ((a ^ n % m : Nat) : Int)) := by
  walk_at "ded enter"
  k_with "exec While Compare cons nil" =>
    k_dflt (
      rename Fr _ _ _ _ => lF'
      rename News _ _ _ _ => lN'
      with_unfolding_all refine' ksw_while (fun (_ : PwS) => news) (fun c => [(Str.ofString "found", .int c.f c.k1), (Str.ofString "square", .int c.q c.k2), (Str.ofString "n", .int c.n c.k3)]) (fun _ => True) [] (fun c => PwP a n m c) (fun c => c.n.toNat) ⟨_, _, _, _, _, _⟩ lF' ?kn ?kf ?kk ?kp ?_
      case kk => kst_all
      case kn => exact kst_newsOf lN' (by walk_at "ded sub")
      case kf => trivial
      case kp => exact pw_start hm
      clear lF' lN'
      rintro ⟨f0, q0, n0, k1, k2, k3⟩ u h9 tk9 - hP F N
      obtain ⟨f, q, n9, hf, hq, hn, hfm, hqm, he⟩ := hP.ex
      dsimp only at hf hq hn
      subst hf hq hn
      dsimp only [kstB] at F N ⊢)
  k_with "ded KswEnd" =>
    k_dflt (
      rename News _ _ _ _ => nE'
      refine' ksw_end ⟨_, _, _, _, _, _⟩ (by assumption) nE' ?kn trivial ?kk (by ksw_same) ?kp ?km
      case kk => kst_all
      case kn => walk_at "ded sub"
      case kp => first | exact pw_a hm he (by assumption) | exact pw_b hm hfm he (by assumption)
      case km => exact pw_less (by assumption))
  walk_at "ded loop"
  have hz : n9 = 0 := by omega
  rw [hz, Nat.pow_zero, Nat.mul_one, Nat.mod_eq_of_lt hfm] at he
  rw [he]
theorem powx_ct (w : World) (a : Nat) (x : Int) (n m : Nat) (ua un um : Tok) (news : Led) (hx : x = (n : Int)) (hm : 0 < m) (hm' : m < 1000000) : Ct w 55 2 [.int (a : Int) ua, .int x un, .int (m : Int) um] news (RI news ((a ^ n % m : Nat) : Int)) := by
  subst hx
  exact pow_ct w a n m ua un um news hm hm'
local macro_rules | `(tactic| walk_at "ded enterC") => `(tactic| (
  w_top off; k_with_none; unfold Ct; k_fill
  intro mean mg mb dp un gd cn cs aa ccd cl outer A₀ base h₀ L m s Q E B F X N T hk hdp hun hret
  refine wpAny_call ?_
  k_dflt (
    refine' code_defC ?k1 ?k2 ?k3 ?k4 ?k5 ?kA ?kF ?kK ?k6 ?k7 ?k8 ?k9 ?kB ?kD ?_ ?c2 ?c3 ?c4
    case kA => exact rfl
    case kF => exact rfl
    case kK => assumption
    case k1 => k_asm
    case k2 => k_asm
    case k3 => k_asm
    case k4 => k_asm
    case k5 => k_asm
    case k6 => k_is
    case k7 => k_is
    case k8 => ktr_room
    case k9 => exact BindsTo.of_eq rfl
    case kB => exact rfl
    case kD => decide +kernel
    case c2 => exact rfl
    case c3 => exact rfl
    case c4 => exact rfl
    intro g' L' h' tk' cells' FG' F' N' Y' B' X' T' l1
    (try k_lt l1)
    k_cells Y'
    (try simp only [List.cons_append, List.nil_append] at N')
    (try dsimp only)
    (try k_lift B')
    (try k_fold))))
def plain (h k : Nat) : Int := (List.map (fun k' => (2 * k' - (k : Int)) * (2 * ((h : Int) * k').fmod k - k)) (rangeKs 1 ((k : Int) - 1).toNat)).sum
theorem plain_ct (w : World) (h k : Nat) (uh uk : Tok) (news : Led) (h0 : 0 < h) (h1 : h < k) (hk : k < 24) : Ct w 137 4 [.int (h : Int) uh, .int (k : Int) uk] news (RI news (plain h k)) := by
  walk_at "ded enterC"
  walk_at "ded loop"
abbrev poolOf (I : Addr) (spot : Nat) (t : Tok) (c : Nat) : Obj := listOf [Value.ref I, Value.int (spot : Int) t].toArray c
def RDraw (news : Led) (P I : Addr) (spot : Nat) (vs : List Value) (nn : Nat) (many : Nat) : Rt := fun h₀ L m s Q => ∀ (r : Nat) (t t2 : Tok) (c : Nat) (h' : Heap) (tk' : Nat), r < many → Fr h₀ L h' m → News h₀ L h' ((P, poolOf I (spot + 1) t2 c) :: (I, listOf vs.toArray nn) :: news) → Q (.int (r : Int) t) { s with heap := h', toks := tk' }
theorem rdraw_end {h₀ h' : Heap} {L : Addr} {m : Fm} {s : Shared} {Q : Value → Shared → Prop} {news news' : Led} {tk' : Nat} {P I : Addr} {spot : Nat} {vs : List Value} {nn many : Nat} {y : Int} {t t2 : Tok} {c : Nat} (hr : RDraw news P I spot vs nn many h₀ L m s Q) (F : Fr h₀ L h' m) (N : News h₀ L h' news')
    (hP : (P, listOf [Value.ref I, Value.int ((spot : Int) + 1) t2].toArray c) ∈ news') (hn : ∀ p ∈ (I, listOf vs.toArray nn) :: news, p ∈ news') (e : Hold (∃ x : Int, y = Int.fmod x many)) (hm : Hold (0 < many)) : Q (.int y t) { s with heap := h', toks := tk' } := by
  obtain ⟨x, rfl⟩ := e
  have hm' : 0 < many := hm
  have h1 := Int.fmod_nonneg_of_pos x (b := (many : Int)) (by omega)
  have h2 := Int.fmod_lt_of_pos x (b := (many : Int)) (by omega)
  obtain ⟨r, hr9⟩ := Int.eq_ofNat_of_zero_le h1
  rw [hr9]
  refine hr r t t2 c h' tk' (by omega) F fun p hp => ?_
  rcases List.mem_cons.mp hp with rfl | hp
  · exact N _ hP
  · exact N p (hn p hp)
theorem draw_ct (w : World) (P I : Addr) (spot : Nat) (t : Tok) (c : Nat) (vs : List Value) (ns : List Int) (nn : Nat) (many : Nat) (um : Tok) (news : Led) (hi : IntsAre vs ns) (hlen : vs.length < 1000) (hsp : spot < 1000) (hm : 0 < many) (hPI : P ≠ I) (hPn : ∀ p ∈ news, p.1 ≠ P) :
    Ct w 125 2 [.ref P, .int (many : Int) um] ((P, poolOf I spot t c) :: (I, listOf vs.toArray nn) :: news) (RDraw news P I spot vs nn many) := by
  walk_at "ded enter"
  have hx9 : ∃ x tx, vs.length ≤ spot ∨ vs[((spot : Nat) : Int).toNat]? = some (Value.int x tx) := by
    by_cases hs : vs.length ≤ spot
    · exact ⟨0, 0, .inl hs⟩
    · have hl := IntsAre.length hi
      obtain ⟨tx, hx⟩ := IntsAre.get hi spot ns[spot] (List.getElem?_eq_getElem (by omega))
      exact ⟨_, tx, .inr hx⟩
  obtain ⟨x9, tx9, hx9⟩ := hx9
  k_with "ded ret end" =>
    k_dflt (
      with_reducible rename RDraw _ _ _ _ _ _ _ _ _ _ _ _ => hR
      refine rdraw_end hR (by assumption) (by assumption) (by walk_at "ded mem") (by walk_at "ded sub") ?_ ?_)
  walk_at "ded loop"
  all_goals first | exact ⟨_, rfl⟩ | exact hm
theorem draw_arg (r : Nat) : (2 + (r : Int) - 1) = ((r + 1 : Nat) : Int) := by omega
theorem drawx_ct (w : World) (P I : Addr) (spot : Nat) (t : Tok) (c : Nat) (vs : List Value) (ns : List Int) (nn : Nat) (x : Int) (many : Nat) (um : Tok) (news : Led) (hi : IntsAre vs ns) (hx : x = (many : Int)) (hlen : vs.length < 1000) (hsp : spot < 1000) (hm : 0 < many) (hPI : P ≠ I) (hPn : ∀ p ∈ news, p.1 ≠ P) :
    Ct w 125 2 [.ref P, .int x um] ((P, poolOf I spot t c) :: (I, listOf vs.toArray nn) :: news) (RDraw news P I spot vs nn many) := by
  subst hx
  exact draw_ct w P I spot t c vs ns nn many um news hi hlen hsp hm hPI hPn
local macro_rules | `(tactic| walk_at "call ref") => `(tactic| (k_here; k_dflt (refine' ct_use (drawx_ct _ _ _ _ _ _ _ _ _ _ _ _ _ ?p1 ?p2 ?p3 ?p4 ?p5 ?p6 ?p7) ?k1 ?k2 ?k3 ?k4 ?k5 ?k6 ?k7 ?k8 ?_; (case k1 => k_asm); (case k2 => k_asm); (case k3 => k_asm); (case k4 => k_asm); (case k5 => k_asm); (case k6 => first | exact rfl | assumption); (case k7 => walk_at "ded room"); (case k8 => walk_at "ded room"); (case p1 => walk_at "ded fact"); (case p2 => first | exact draw_arg _ | exact rfl); (case p3 => walk_at "ded fact"); (case p4 => walk_at "ded fact"); (case p5 => walk_at "ded fact"); (case p6 => walk_at "ded fact"); (case p7 => walk_at "ded fact"); k_whole); (unfold RDraw; intro r' t' t2' c' h' tk' hr' F' N'; (try dsimp only); (try k_sweep); (try k_fold))))
def RPair (news : Led) (P I : Addr) (spot : Nat) (vs : List Value) (nn : Nat) (many : Nat) : Rt := fun h₀ L m s Q => ∀ (h k : Nat) (D : Addr) (t1 t2 t3 : Tok) (c c2 : Nat) (h' : Heap) (tk' : Nat), 0 < h → h < k → k < many + 2 → Nat.gcd h k = 1 → Fr h₀ L h' m →
  News h₀ L h' ((D, tup [.int (h : Int) t1, .int (k : Int) t2] c) :: (P, poolOf I (spot + 2) t3 c2) :: (I, listOf vs.toArray nn) :: news) → AllLt D ((P, poolOf I (spot + 2) t3 c2) :: (I, listOf vs.toArray nn) :: news) → Q (.ref D) { s with heap := h', toks := tk' }
theorem rpair_end {h₀ h' : Heap} {L : Addr} {m : Fm} {s : Shared} {Q : Value → Shared → Prop} {news news' : Led} {tk' : Nat} {P I D : Addr} {spot : Nat} {vs : List Value} {nn many : Nat} {x y : Int} {t1 t2 t3 : Tok} {c c2 : Nat} (hr : RPair news P I spot vs nn many h₀ L m s Q) (F : Fr h₀ L h' m) (N : News h₀ L h' news')
    (hD : (D, tup [.int x t1, .int y t2] c) ∈ news') (hP : (P, poolOf I (spot + 1 + 1) t3 c2) ∈ news') (hn : ∀ p ∈ (I, listOf vs.toArray nn) :: news, p ∈ news') (e : Hold (∃ h k : Nat, x = h ∧ y = k ∧ 0 < h ∧ h < k ∧ k < many + 2 ∧ Nat.gcd h k = 1))
    (hl : Hold (AllLt D ((P, poolOf I (spot + 1 + 1) t3 c2) :: (I, listOf vs.toArray nn) :: news))) : Q (.ref D) { s with heap := h', toks := tk' } := by
  obtain ⟨h, k, rfl, rfl, h0, h1, hk, hg⟩ := e
  refine hr h k D t1 t2 t3 c c2 h' tk' h0 h1 hk hg F (fun p hp => ?_) hl
  rcases List.mem_cons.mp hp with rfl | hp
  · exact N _ hD
  rcases List.mem_cons.mp hp with rfl | hp
  · exact N _ hP
  · exact N p (hn p hp)
theorem pair_math {r1 r2 many : Nat} {x : Int} (h1 : r1 < many) (h2 : r2 < r1 + 1) (hx : x = (Int.gcd (2 + (r1 : Int)) (1 + (r2 : Int)) : Int)) :
    ∃ h k : Nat, Int.fdiv (1 + (r2 : Int)) x = h ∧ Int.fdiv (2 + (r1 : Int)) x = k ∧ 0 < h ∧ h < k ∧ k < many + 2 ∧ Nat.gcd h k = 1 := by
  have e1 : (2 + (r1 : Int)) = ((2 + r1 : Nat) : Int) := by omega
  have e2 : (1 + (r2 : Int)) = ((1 + r2 : Nat) : Int) := by omega
  have e3 : x = ((Nat.gcd (2 + r1) (1 + r2) : Nat) : Int) := by rw [hx, e1, e2]; rfl
  rw [e1, e2, e3]
  have hg0 : 0 < Nat.gcd (2 + r1) (1 + r2) := Nat.gcd_pos_of_pos_left _ (by omega)
  obtain ⟨a, ha⟩ := Nat.gcd_dvd_left (2 + r1) (1 + r2)
  obtain ⟨b, hb⟩ := Nat.gcd_dvd_right (2 + r1) (1 + r2)
  have hc := Nat.coprime_div_gcd_div_gcd (m := 2 + r1) (n := 1 + r2) hg0
  refine ⟨(1 + r2) / Nat.gcd (2 + r1) (1 + r2), (2 + r1) / Nat.gcd (2 + r1) (1 + r2), fdiv_cast _ _, fdiv_cast _ _, ?_, ?_, ?_, ?_⟩
  · exact Nat.div_pos (Nat.gcd_le_right _ (by omega)) hg0
  · generalize Nat.gcd (2 + r1) (1 + r2) = g at *
    have h3 : (1 + r2) / g = b := by rw [hb]; exact Nat.mul_div_cancel_left b hg0
    have h4 : (2 + r1) / g = a := by rw [ha]; exact Nat.mul_div_cancel_left a hg0
    rw [h3, h4]
    have : g * b < g * a := by omega
    exact Nat.lt_of_mul_lt_mul_left this
  · have := Nat.div_le_self (2 + r1) (Nat.gcd (2 + r1) (1 + r2))
    omega
  · rw [Nat.gcd_comm]; exact hc
structure PrS where
  x : Int
  y : Int
  k1 : Tok
  k2 : Tok
structure PrP (A B : Int) (s : PrS) : Prop where
  x0 : 0 < s.x
  x1 : s.x < 1000000
  y0 : 0 ≤ s.y
  y1 : s.y < 1000000
  g : Int.gcd s.x s.y = Int.gcd A B
theorem pr_step {A B x y : Int} {k1 k2 k3 : Tok} (h : PrP A B ⟨x, y, k1, k2⟩) (hy : y ≠ 0) : PrP A B ⟨y, Int.fmod x y, k2, k3⟩ := by
  obtain ⟨x0, x1, y0, y1, g⟩ := h
  dsimp only at *
  have f := fmod_nn (x := x) y0 hy
  exact ⟨by dsimp only; omega, y1, f.1, by dsimp only; omega, (gcd_step (by omega) y0).trans g⟩
theorem pair_ct (w : World) (P I : Addr) (spot : Nat) (t : Tok) (c : Nat) (vs : List Value) (ns : List Int) (nn : Nat) (many : Nat) (um : Tok) (news : Led) (hi : IntsAre vs ns) (hlen : vs.length < 1000) (hsp : spot < 900) (hm : 0 < many) (hm' : many < 100000) (hPI : P ≠ I) (hPn : ∀ p ∈ news, p.1 ≠ P) :
    Ct w 132 6 [.ref P, .int (many : Int) um] ((P, poolOf I spot t c) :: (I, listOf vs.toArray nn) :: news) (RPair news P I spot vs nn many) := by
  walk_at "ded enter"
  k_with "exec While Compare cons nil" =>
    k_dflt (
      rename Fr _ _ _ _ => lF'
      rename News _ _ _ _ => lN'
      rename _ < many => hr1
      rename _ < _ + 1 => hr2
      with_unfolding_all refine' ksw_while (Function.const PrS ?led) (fun c => [(Str.ofString "one", .int c.x c.k1), (Str.ofString "other", .int c.y c.k2)]) (fun _ => True) [] (PrP _ _) (fun c => c.y.toNat) ⟨_, _, _, _⟩ lF' ?kn ?kf ?kk ?kp ?_
      case kk => kst_all
      case kn => exact lN'
      case kf => trivial
      case kp =>
        refine' ⟨?_, ?_, ?_, ?_, by first | (with_unfolding_all rfl) | dsimp only⟩ <;> (dsimp only; omega)
      clear lF' lN'
      rintro ⟨x, y, k1, k2⟩ u h9 tk9 - hP F N
      have hp1 := hP.x0
      have hp2 := hP.x1
      have hp3 := hP.y0
      have hp4 := hP.y1
      dsimp only [kstB, Function.const] at F N hp1 hp2 hp3 hp4 ⊢)
  k_with "ded KswEnd" =>
    k_dflt (
      rename News _ _ _ _ => nE'
      refine' ksw_end ⟨_, _, _, _⟩ (by assumption) nE' ?kn trivial ?kk (by ksw_same) ?kp ?km
      case kk => kst_all
      case kn => exact fun p hp => List.mem_cons_of_mem _ hp
      case kp => exact pr_step hP (by assumption)
      case km => exact (fmod_nn hp3 (by assumption)).2)
  k_with "ded ret end" =>
    k_dflt (
      with_reducible rename RPair _ _ _ _ _ _ _ _ _ _ _ _ => hR
      refine rpair_end hR (by assumption) (by assumption) (by walk_at "ded mem") (by walk_at "ded mem") (by walk_at "ded sub") ?_ ?_)
  walk_at "ded loop"
  · have hg := hP.g
    dsimp only at hg
    rename y = 0 => hz
    rw [hz, Int.gcd_zero_right] at hg
    exact pair_math hr1 hr2 (by omega)
  · walk_at "ded lt"
def cfF : Nat → Nat → Nat → List Int
  | 0, _, _ => []
  | n + 1, a, b => if b = 0 then [] else ((a / b : Nat) : Int) :: cfF n b (a % b)
theorem cfF_eq : ∀ (n a b : Nat), b ≤ n → cfF n a b = cf a b
  | 0, a, b, h => by
    have : b = 0 := by omega
    subst this; rw [cf_zero]; rfl
  | n + 1, a, b, h => by
    unfold cfF
    by_cases h0 : b = 0
    · rw [if_pos h0, h0, cf_zero]
    · have hb := Nat.pos_of_ne_zero h0
      rw [if_neg h0, cf_pos a b hb, cfF_eq n b (a % b) (by have := Nat.mod_lt a hb; omega)]
def TF (h k : Nat) : Int := tl (cfF 24 h k) h k
theorem TF_eq {h k : Nat} (hk : k < 24) : TF h k = T h k := by unfold TF T; rw [cfF_eq 24 h k (by omega)]
theorem fin_plain : ∀ k < 24, ∀ h < k, 0 < h → Nat.gcd h k = 1 → (k : Int) * TF h k = 3 * plain h k := by decide +kernel
theorem fin1 {h k : Nat} (h0 : 0 < h) (h1 : h < k) (hk : k < 24) (hg : Nat.gcd h k = 1) : (k : Int) * T h k = 3 * plain h k := by
  rw [← TF_eq hk]; exact fin_plain k hk h h1 h0 hg
def noDiv (k : Nat) : List Int := List.foldl (fun l' k' => if (k : Int).fmod k' = 0 then l' ++ [k'] else l') [] (rangeKs 2 ((k : Int) - 2).toNat)
def oddOk (k h : Nat) : Bool := !(decide (0 < h) && decide (Nat.gcd h k = 1) && decide (2 < k) && decide (noDiv k = [])) || (if h ^ ((k - 1) / 2) % k = 1 then decide (Int.fmod (TF h k - k - 1 + 2 * 1) 8 = 0) else decide (Int.fmod (TF h k - k - 1 + 2 * -1) 8 = 0))
theorem oddOk_all : ∀ k < 24, ∀ h < k, oddOk k h = true := by decide +kernel
theorem fin_odd (k : Nat) (hk : k < 24) (h : Nat) (h1 : h < k) (h0 : 0 < h) (hg : Nat.gcd h k = 1) (h2 : 2 < k) (hL : noDiv k = []) :
    (h ^ ((k - 1) / 2) % k = 1 → Int.fmod (TF h k - k - 1 + 2 * 1) 8 = 0) ∧ (h ^ ((k - 1) / 2) % k ≠ 1 → Int.fmod (TF h k - k - 1 + 2 * -1) 8 = 0) := by
  have c := oddOk_all k hk h h1
  unfold oddOk at c
  rw [decide_eq_true h0, decide_eq_true hg, decide_eq_true h2, decide_eq_true hL] at c
  simp only [Bool.and_self, Bool.not_true, Bool.false_or] at c
  constructor
  · intro e; rw [if_pos e] at c; exact of_decide_eq_true c
  · intro e; rw [if_neg e] at c; exact of_decide_eq_true c
theorem fin8a {h k : Nat} (hm : ¬ Int.fmod (T h k - k - 1 + 2 * 1) 8 = 0) (hp : ((h ^ ((k - 1) / 2) % k : Nat) : Int) = 1) (h0 : 0 < h) (h1 : h < k) (hk : k < 24) (hg : Nat.gcd h k = 1) (h2 : (2 : Int) < k) (hL : decide (noDiv k = []) = true) : False := by
  have := fin_odd k hk h h1 h0 hg (by omega) (of_decide_eq_true hL)
  have := this.1 (by exact_mod_cast hp)
  rw [TF_eq hk] at this
  exact hm this
theorem fin8b {h k : Nat} (hm : ¬ Int.fmod (T h k - k - 1 + 2 * -1) 8 = 0) (hp : ¬ ((h ^ ((k - 1) / 2) % k : Nat) : Int) = 1) (h0 : 0 < h) (h1 : h < k) (hk : k < 24) (hg : Nat.gcd h k = 1) (h2 : (2 : Int) < k) (hL : decide (noDiv k = []) = true) : False := by
  have := fin_odd k hk h h1 h0 hg (by omega) (of_decide_eq_true hL)
  have := this.2 (fun e => hp (by exact_mod_cast e))
  rw [TF_eq hk] at this
  exact hm this
local macro_rules | `(tactic| walk_at "call ref") => `(tactic| (k_here; k_dflt (refine' ct_use (plain_ct _ _ _ _ _ _ ?p1 ?p2 ?p3) ?k1 ?k2 ?k3 ?k4 ?k5 ?k6 ?k7 ?k8 ?_; (case k1 => k_asm); (case k2 => k_asm); (case k3 => k_asm); (case k4 => k_asm); (case k5 => k_asm); (case k6 => first | exact rfl | assumption); (case k7 => walk_at "ded room"); (case k8 => walk_at "ded room"); (case p1 => walk_at "ded fact"); (case p2 => walk_at "ded fact"); (case p3 => walk_at "ded fact"); k_whole); walk_at "ded ret"))
local macro_rules | `(tactic| walk_at "call ref") => `(tactic| (k_here; k_dflt (refine' ct_use (goes_ct _ _ _ _ _ _ ?p1 ?p2 ?p3 ?p4) ?k1 ?k2 ?k3 ?k4 ?k5 ?k6 ?k7 ?k8 ?_; (case k1 => k_asm); (case k2 => k_asm); (case k3 => k_asm); (case k4 => k_asm); (case k5 => k_asm); (case k6 => first | exact rfl | assumption); (case k7 => walk_at "ded room"); (case k8 => walk_at "ded room"); (case p1 => walk_at "ded fact"); (case p2 => walk_at "ded fact"); (case p3 => walk_at "ded fact"); (case p4 => walk_at "ded fact"); k_whole); walk_at "ded ret"))
local macro_rules | `(tactic| walk_at "call ref") => `(tactic| (k_here; k_dflt (refine' ct_use (powx_ct _ _ _ _ _ _ _ _ _ ?p1 ?p2 ?p3) ?k1 ?k2 ?k3 ?k4 ?k5 ?k6 ?k7 ?k8 ?_; (case k1 => k_asm); (case k2 => k_asm); (case k3 => k_asm); (case k4 => k_asm); (case k5 => k_asm); (case k6 => first | exact rfl | assumption); (case k7 => walk_at "ded room"); (case k8 => walk_at "ded room"); (case p1 => first | with_reducible assumption | exact rfl); (case p2 => walk_at "ded fact"); (case p3 => walk_at "ded fact"); k_whole); walk_at "ded ret"))
theorem cell_ne {a b : Nat} {o : Obj} (h : a < b) : ∀ p ∈ ([((a : Addr), o)] : Led), p.1 ≠ b := fun p hp => by
  rw [List.mem_singleton.mp hp]; exact Nat.ne_of_lt h
theorem half_k {h k : Nat} (_h0 : 0 < h) (h1 : h < k) : Int.fdiv ((k : Int) - 1) 2 = (((k - 1) / 2 : Nat) : Int) := by
  rw [Int.fdiv_eq_ediv_of_nonneg _ (by omega)]; omega
local macro_rules | `(tactic| walk_at "eval ListComp") => `(tactic| k_dflt (k_here; lct_look; lcg_calm; (refine LCt.ListComp_T (F₀ := by k_asm) (by with_unfolding_all rfl) (by decide) (by rfl) (by decide) (by rfl) ?_)))
local macro_rules | `(tactic| walk_at "CompSrcT") => `(tactic| k_dflt (k_here; kci_src; (refine LCt.CompSrcT.range (by rfl) (by k_asm) (by k_asm) (by assumption) (small_one (by omega) (by omega) (by omega) (by omega)) (rangeSize_nat _ _) (by rw [PySem.sizeLine_eq]; omega) ?_); intro g'; (refine' kci_range _ (fun k' t' I' oI' C' oC' D' m' ys' l' h' tk' E' hlo' hhi' hI' hC' hx' F' N' off' ne' => ?_) ?_ ?_); (all_goals (try (have off2' := off'; simp only [LCg.Off3, and_true] at off'))); (all_goals (try ((show KPfMark → _); intro hMark'))); kcf_last))
local macro_rules | `(tactic| walk_at "CompEnd") => `(tactic| (k_dflt (
  (refine' LCg.CompEnd.intro ?ce1 ?ce2 _ ?ce3 ?ce4 ?ce5 ?ce6)
  (case ce4 => with_reducible assumption)
  (case ce1 => assumption)
  (case ce2 => assumption)
  (case ce3 => walk_at "ded sub")
  (case ce5 => lcg_src))))
local macro_rules | `(tactic| walk_at "ded last") => `(tactic| first | exact (@List.Mem.head _ _ []) | (refine List.Mem.tail _ ?_; walk_at "ded last"))
local macro_rules | `(tactic| walk_at "ded lens") => `(tactic| (
  (with_reducible rename IntsAre _ (List.map _ (List.take 4 _)) => hI9)
  (have hl9 := IntsAre.length hI9)
  (rw [List.length_map, List.length_take] at hl9)
  omega))
local macro_rules | `(tactic| walk_at "call ref") => `(tactic| k_dflt (
  (refine' ct_use (pair_ct _ _ _ 0 _ _ _ _ _ 22 _ _ ?p1 ?p2 ?p3 ?p4 ?p5 ?p6 ?p7) ?k1 ?k2 ?k3 ?k4 ?k5 ?k6 ?k7 ?k8 ?ret)
  (case k1 => k_asm)
  (case k2 => k_asm)
  (case k3 => k_asm)
  (case k4 => k_asm)
  (case k5 => k_asm)
  (case k6 => exact rfl)
  (case k7 => walk_at "ded room")
  (case k8 => walk_at "ded room")
  (case p1 => with_reducible assumption)
  (case p2 => walk_at "ded lens")
  (case p3 => decide)
  (case p4 => decide)
  (case p5 => decide)
  (case p6 => (refine neN ?_; omega))
  (case p7 => k_all)
  (unfold RPair)
  (intro h k D t1 t2 t3 c c2 hp9 tk9 h0 h1 hk hg F9 N9 l9)
  (simp only [AllLt, and_true] at l9)
  (have fin9 := fin1 h0 h1 hk hg)
  (have fin7 := half_k h0 h1)
  (try dsimp only)
  (try k_fold)))
local macro_rules | `(tactic| walk_at "call ref") => `(tactic| k_extra "ded pair")
local macro_rules | `(tactic| walk_at "ite") => `(tactic| (k_here; first
  | refine ite_neg (by ((simp only [bne_iff_ne, ne_eq, Decidable.not_not]); with_reducible assumption)) ?_
  | with_reducible refine ite_tt ?_
  | with_reducible refine ite_ff ?_
  | (with_reducible refine split_ine ?_ ?_ <;> intro _)
  | (with_reducible refine split_ieq ?_ ?_ <;> intro _)
  | (refine split_dec ?_ ?_ <;> intro _)
  | (refine split_bool ?_ ?_ <;> intro _)))
theorem nt_absurd {P : Prop} (h : (!true) = true) : P := absurd h (by decide)
local macro_rules | `(tactic| walk_at "ded false") => `(tactic| (
  first
  | exact nt_absurd (by with_reducible assumption)
  | ((refine' False.elim (fin8a ?da ?db ?dc ?dd ?de ?df ?dg ?dh)); (case da => assumption); (case db => assumption); (case dc => assumption); (case dd => assumption); (case de => first | assumption | omega); (case df => assumption); (case dg => assumption); (case dh => assumption))
  | ((refine' False.elim (fin8b ?da ?db ?dc ?dd ?de ?df ?dg ?dh)); (case da => assumption); (case db => assumption); (case dc => assumption); (case dd => assumption); (case de => first | assumption | omega); (case df => assumption); (case dg => assumption); (case dh => assumption))))
local macro_rules | `(tactic| walk_at "GoodW cons ok") => `(tactic| (refine halt ?_))
theorem post_true (ns : List Int) : PySem.Challenge.rw_tk0011_01.row.claim.post [ofPy (PyData.list (List.map PyData.int ns))] (WData.bool true) [ofPy (PyData.list (List.map PyData.int ns))] = true := by
  wrow_post
local macro_rules | `(tactic| walk_at "execs nil") => `(tactic| (with_reducible refine wpAny_execs_nil ?_))
local macro_rules | `(tactic| walk_at "execs cons") => `(tactic| ((with_reducible refine wpAny_execs_cons ?_); (try dsimp only)))
local macro_rules | `(tactic| walk_at "ded good") => `(tactic| ((refine' goodW_bool ?gc ?gd (raisesW_false ?ga) ?gb ?ge); (case gc => assumption); (case gd => assumption); (case ga => exact allW_false_nil); (case gb => exact post_true _); (case ge => rfl)))
theorem law_t : PySem.Challenge.rw_tk0011_01.Holds := hd (by
  k_with "ded pair" =>
    k_dflt (
      (refine' ct_use (pair_ct _ _ _ 2 _ _ _ _ _ 5000 _ [(_, _)] ?p1z ?p2z ?p3z ?p4z ?p5z ?p6z ?p7z) ?k1z ?k2z ?k3z ?k4z ?k5z ?k6z ?k7z ?k8z ?_)
      (case k1z => k_asm)
      (case k2z => k_asm)
      (case k3z => k_asm)
      (case k4z =>
        (refine' kst_newsOf ?nWz (List.forall_mem_cons.mpr ⟨?m1z, List.forall_mem_cons.mpr ⟨?m2z, List.forall_mem_cons.mpr ⟨?m3z, List.forall_mem_nil _⟩⟩⟩))
        (case nWz => k_asm)
        (case m1z => walk_at "ded mem")
        (case m2z => walk_at "ded mem")
        (case m3z => walk_at "ded last"))
      (case k5z => k_asm)
      (case k6z => exact rfl)
      (case k7z => walk_at "ded room")
      (case k8z => walk_at "ded room")
      (case p1z => with_reducible assumption)
      (case p2z => walk_at "ded lens")
      (case p3z => decide)
      (case p4z => decide)
      (case p5z => decide)
      (case p6z => (refine neN ?_; omega))
      (case p7z => (refine cell_ne ?_; omega))
      (unfold RPair)
      (intro h k D t1 t2 t3 c c2 hp9 tk9 h0 h1 hk hg F9 N9 l9)
      (simp only [AllLt, and_true] at l9)
      (try dsimp only)
      (try k_fold))
  w_strict (
    k_fill
    intro w s₀ s₁ mg mb G Y fa o pm cd doc dV kV ho hd9 hcd hD hmg hg args vals as hpre hlay hrd hwl hlo
    have KX := kIn_of Y
    k_behind G ho hd9 hcd hD hmg hpre hlay hrd hwl hlo cd)
  all_goals (try k_fold)
  walk_at "ded loop"
  all_goals first | walk_at "ded false" | walk_at "ded good")
end Ded
theorem PySem.Challenge.cw_tk0011_01_holds : PySem.Challenge.rw_tk0011_01.Holds :=
  Ded.law_t
