import PyProof.Rows.All
import Wide.All
import OpenK.AllK
import Wide.FinOn
import KE.KStateDown
import Lean
import HandS.Base
import HandS.Call
import HandS.Ends
import HandS.More
import HandS.Words
import HandS.WordsExc
import HandS.Defaults
import HandS.Head0
import HandS.Head1
import HandS.Head2
import HandS.HeadEnd
import HandS.HeadHook1
import HandS.HeadHook2
import HandS.ExcInit
import HandS.IsInst
import HandS.Codes
import HandS.ClsMeth
import PyProof.EqAt
import PyProof.EqKinds
import PyProof.TupleCall
import HandS.ForMost
import HandS.Evl
import HandS.Steps
import HandS.Exc
import HandS.TryOnly
import HandS.Zip
import HandS.TupSets
import HandS.SortOrd
import HandS.SortKw
import HandS.Conv
import HandS.TupAny
import HandS.TupMul
import HandS.Style
import HandS.Flow
import HandS.MakeKwOnly
import KE.SortData
import HandS.ExcOwn
import PySem.Challenge.RW_shywheels_k66_whole_plans_played
set_option Elab.async false
set_option linter.all false
set_option maxRecDepth 100000
set_option maxHeartbeats 4000000
section
namespace WM
abbrev F := Nat → Int

/-! ### spans of generators, modulo m -/
inductive In (m : Int) (G : F → Prop) : F → Prop
  | zero {f : F} : (∀ i, m ∣ f i) → In m G f
  | step {f g h : F} (c : Int) : G g → In m G f → (∀ i, m ∣ h i - (f i + c * g i)) → In m G h

theorem dvd_of_sub {m a b : Int} (h : m ∣ a - b) (hb : m ∣ b) : m ∣ a := by
  have := Int.dvd_add h hb
  rwa [Int.sub_add_cancel] at this

section
variable {m : Int} {G G' : F → Prop} {f g h : F}
theorem In.cg (x : In m G f) (e : ∀ i, m ∣ h i - f i) : In m G h := by
  cases x with
  | zero z => exact .zero fun i => dvd_of_sub (e i) (z i)
  | step c hg hf hh =>
    refine .step c hg hf fun i => ?_
    have := Int.dvd_add (e i) (hh i)
    have e2 : ∀ a b c : Int, a - b + (b - c) = a - c := by intros; omega
    rwa [e2] at this
theorem In.gen (hg : G g) : In m G g := .step (f := fun _ => 0) 1 hg (.zero fun _ => Int.dvd_zero _) fun i => ⟨0, by grind⟩
theorem In.lin {a b : Int} (x : In m G f) : ∀ {g h : F}, In m G g → (∀ i, m ∣ h i - (a * f i + b * g i)) → In m G h := by
  induction x with
  | zero z =>
    rename_i f
    intro g h y
    induction y generalizing h with
    | zero z2 =>
      intro e
      refine .zero fun i => dvd_of_sub (e i) (Int.dvd_add (Int.dvd_mul_of_dvd_right (z i)) (Int.dvd_mul_of_dvd_right (z2 i)))
    | step c hg hf hh ih =>
      rename_i f1 g1 h1
      intro e
      refine .step (b * c) hg (ih (h := fun i => a * f i + b * f1 i) fun i => ⟨0, by grind⟩) fun i => ?_
      obtain ⟨k, hk⟩ := e i
      obtain ⟨l, hl⟩ := hh i
      exact ⟨k + b * l, by grind⟩
  | step c hg hf hh ih =>
    rename_i f1 g1 h1
    intro g h y e
    refine .step (a * c) hg (ih (h := fun i => a * f1 i + b * g i) y fun i => ⟨0, by grind⟩) fun i => ?_
    obtain ⟨k, hk⟩ := e i
    obtain ⟨l, hl⟩ := hh i
    exact ⟨k + a * l, by grind⟩
theorem In.smul (a : Int) (x : In m G f) (e : ∀ i, m ∣ h i - a * f i) : In m G h :=
  x.lin (a := a) (b := 0) (g := f) x fun i => by
    obtain ⟨k, hk⟩ := e i
    exact ⟨k, by grind⟩
theorem In.add (x : In m G f) (y : In m G g) (e : ∀ i, m ∣ h i - (f i + g i)) : In m G h :=
  x.lin (a := 1) (b := 1) y fun i => by
    obtain ⟨k, hk⟩ := e i
    exact ⟨k, by grind⟩
theorem In.sub (x : In m G f) (y : In m G g) (e : ∀ i, m ∣ h i - (f i - g i)) : In m G h :=
  x.lin (a := 1) (b := -1) y fun i => by
    obtain ⟨k, hk⟩ := e i
    exact ⟨k, by grind⟩
theorem In.sub' (x : In m G f) (y : In m G g) : In m G (fun i => f i - g i) := x.sub y fun i => ⟨0, by grind⟩
theorem In.add' (x : In m G f) (y : In m G g) : In m G (fun i => f i + g i) := x.add y fun i => ⟨0, by grind⟩
theorem In.smul' (a : Int) (x : In m G f) : In m G (fun i => a * f i) := x.smul a fun i => ⟨0, by grind⟩
/-- generators by generators -/
theorem In.mono (k : ∀ g, G g → In m G' g) (x : In m G f) : In m G' f := by
  induction x with
  | zero z => exact .zero z
  | step c hg hf hh ih =>
    refine ih.lin (a := 1) (b := c) (k _ hg) fun i => ?_
    obtain ⟨k, hk⟩ := hh i
    exact ⟨k, by grind⟩
theorem In.weak (k : ∀ g, G g → G' g) (x : In m G f) : In m G' f := x.mono fun g hg => .gen (k g hg)
/-- what each generator has at i, each member has -/
theorem In.all_dvd {d : Int} (hd : d ∣ m) {i : Nat} (k : ∀ g, G g → d ∣ g i) (x : In m G f) : d ∣ f i := by
  induction x with
  | zero z => exact Int.dvd_trans hd (z i)
  | step c hg hf hh ih => exact dvd_of_sub (Int.dvd_trans hd (hh i)) (Int.dvd_add ih (Int.dvd_mul_of_dvd_right (k _ hg)))
end

/-! ### sums of positions by weights -/
def dot : List Int → F → Int
  | [], _ => 0
  | a :: w, f => a * f 0 + dot w (fun i => f (i + 1))
theorem dot_lin (a b : Int) : ∀ (w : List Int) (f g : F), dot w (fun i => a * f i + b * g i) = a * dot w f + b * dot w g
  | [], _, _ => by simp [dot]
  | c :: w, f, g => by
    show c * (a * f 0 + b * g 0) + dot w (fun i => a * f (i + 1) + b * g (i + 1)) = _
    rw [dot_lin a b w (fun i => f (i + 1)) (fun i => g (i + 1))]
    show _ = a * (c * f 0 + dot w fun i => f (i + 1)) + b * (c * g 0 + dot w fun i => g (i + 1))
    grind
theorem dot_dvd {m : Int} : ∀ (w : List Int) {f : F}, (∀ i, m ∣ f i) → m ∣ dot w f
  | [], _, _ => Int.dvd_zero _
  | _ :: w, _, h => Int.dvd_add (Int.dvd_mul_of_dvd_right (h 0)) (dot_dvd w fun i => h (i + 1))
theorem dot_sub (w : List Int) (f g : F) : dot w (fun i => f i - g i) = dot w f - dot w g := by
  have := dot_lin 1 (-1) w f g
  have e : (fun i => 1 * f i + -1 * g i) = fun i => f i - g i := by funext i; grind
  rw [e] at this
  rw [this]; grind
theorem dot_add (w : List Int) (f g : F) : dot w (fun i => f i + g i) = dot w f + dot w g := by
  have := dot_lin 1 1 w f g
  have e : (fun i => 1 * f i + 1 * g i) = fun i => f i + g i := by funext i; grind
  rw [e] at this
  rw [this]; grind
theorem dot_cg {m : Int} (w : List Int) {f g : F} (h : ∀ i, m ∣ f i - g i) : m ∣ dot w f - dot w g := by
  rw [← dot_sub]; exact dot_dvd w h
theorem In.dot_dvd {m d : Int} {G : F → Prop} {f : F} (hd : d ∣ m) (w : List Int) (k : ∀ g, G g → d ∣ dot w g) (x : In m G f) : d ∣ dot w f := by
  induction x with
  | zero z => exact Int.dvd_trans hd (WM.dot_dvd w z)
  | step c hg hf hh ih =>
    have h1 := dot_cg w hh
    rename_i f g h
    have e : dot w (fun i => f i + c * g i) = dot w f + c * dot w g := by
      have := dot_lin 1 c w f g
      have e : (fun i => 1 * f i + c * g i) = fun i => f i + c * g i := by funext i; grind
      rw [e] at this
      rw [this]; grind
    rw [e] at h1
    exact dvd_of_sub (Int.dvd_trans hd h1) (Int.dvd_add ih (Int.dvd_mul_of_dvd_right (k _ hg)))

/-! ### vectors -/
def at_ (v : List Int) : F := fun i => v.getD i 0
theorem at_nil (i : Nat) : at_ [] i = 0 := rfl
theorem at_zero (a : Int) (v : List Int) : at_ (a :: v) 0 = a := rfl
theorem at_succ (a : Int) (v : List Int) (i : Nat) : at_ (a :: v) (i + 1) = at_ v i := by simp [at_]
theorem at_out {v : List Int} {i : Nat} (h : v.length ≤ i) : at_ v i = 0 := by
  simp [at_, List.getElem?_eq_none h]
theorem at_some {v : List Int} {i : Nat} (h : i < v.length) : v[i]? = some (at_ v i) := by
  simp [at_, h]
theorem at_mem {v : List Int} {i : Nat} (h : i < v.length) : at_ v i ∈ v := List.mem_of_getElem? (at_some h)
theorem at_ext {u v : List Int} (hl : u.length = v.length) (h : ∀ i, i < u.length → at_ u i = at_ v i) : u = v := by
  apply List.ext_getElem? 
  intro i
  by_cases hi : i < u.length
  · rw [at_some hi, at_some (hl ▸ hi), h i hi]
  · rw [List.getElem?_eq_none (by omega), List.getElem?_eq_none (by omega)]
/-- the sum of the products of the entries, as a list says it -/
theorem dot_list : ∀ (w v : List Int), (List.zipWith (fun a b => a * b) w v).sum = dot w (at_ v)
  | [], v => by simp [dot]
  | a :: w, [] => by
    have : ∀ w : List Int, dot w (at_ []) = 0 := fun w => by
      induction w with
      | nil => rfl
      | cons b w ih =>
        show b * 0 + dot w (fun i => at_ [] (i + 1)) = 0
        have e : (fun i => at_ [] (i + 1)) = at_ [] := rfl
        rw [e, ih]; simp
    rw [this]; simp
  | a :: w, b :: v => by
    show a * b + (List.zipWith (fun a b => a * b) w v).sum = a * at_ (b :: v) 0 + dot w (fun i => at_ (b :: v) (i + 1))
    have e : (fun i => at_ (b :: v) (i + 1)) = at_ v := by funext i; exact at_succ ..
    rw [dot_list w v, e]; rfl
def comb (m a : Int) (u : List Int) (b : Int) (v : List Int) : List Int := List.zipWith (fun x y => (a * x + b * y) % m) u v
theorem comb_len {m a b : Int} {u v : List Int} (h : u.length = v.length) : (comb m a u b v).length = u.length := by
  simp [comb, h]
theorem at_comb {m a b : Int} {u v : List Int} (h : u.length = v.length) (i : Nat) : at_ (comb m a u b v) i = (a * at_ u i + b * at_ v i) % m := by
  by_cases hi : i < u.length
  · have e : (comb m a u b v)[i]? = some ((a * at_ u i + b * at_ v i) % m) := by
      unfold comb
      rw [List.getElem?_zipWith, at_some hi, at_some (h ▸ hi)]
    simp [at_, e]
  · rw [at_out (by rw [comb_len h]; omega), at_out (by omega), at_out (by omega)]; simp
structure Vec (m : Int) (n : Nat) (v : List Int) : Prop where
  len : v.length = n
  rng : ∀ x ∈ v, 0 ≤ x ∧ x < m
theorem Vec.at {m : Int} {n : Nat} {v : List Int} (h : Vec m n v) (hm : 0 < m) (i : Nat) : 0 ≤ at_ v i ∧ at_ v i < m := by
  by_cases hi : i < v.length
  · exact h.rng _ (at_mem hi)
  · rw [at_out (by omega)]; omega
theorem Vec.comb {m a b : Int} {n : Nat} {u v : List Int} (hm : 0 < m) (hu : u.length = n) (hv : v.length = n) : Vec m n (comb m a u b v) := by
  refine ⟨by rw [comb_len (hu.trans hv.symm), hu], fun x hx => ?_⟩
  unfold WM.comb at hx
  obtain ⟨i, hi, e⟩ := List.getElem_of_mem hx
  rw [List.getElem_zipWith] at e
  rw [← e]
  exact ⟨Int.emod_nonneg _ (by omega), Int.emod_lt_of_pos _ hm⟩
theorem emod_cg (m x : Int) : m ∣ x % m - x := by
  have := Int.emod_add_mul_ediv x m
  exact ⟨-(x / m), by grind⟩
theorem comb_cg {m a b : Int} {u v : List Int} (h : u.length = v.length) (i : Nat) : m ∣ at_ (comb m a u b v) i - (a * at_ u i + b * at_ v i) := by
  rw [at_comb h]; exact emod_cg ..
theorem small_dvd {m x : Int} (h : 0 ≤ x ∧ x < m) (d : m ∣ x) : x = 0 := by
  have := Int.emod_eq_of_lt h.1 h.2
  have := Int.emod_eq_zero_of_dvd d
  omega

/-! ### pivots -/
structure Row (m : Int) (n k : Nat) (r : List Int) : Prop extends Vec m n r where
  lt : k < n
  pos : 0 < at_ r k
  zer : ∀ i, i < k → at_ r i = 0
  dvd : at_ r k ∣ m
abbrev Pv := List (Nat × List Int)
def Gen (L : Pv) : F → Prop := fun f => ∃ k r, (k, r) ∈ L ∧ f = at_ r
structure Piv (m : Int) (n : Nat) (L : Pv) : Prop where
  nd : (L.map (·.1)).Nodup
  ok : ∀ k r, (k, r) ∈ L → Row m n k r
def Hi (m : Int) (G : F → Prop) (k : Nat) : F → Prop := fun f => G f ∧ ∀ i, i < k → m ∣ f i
def How (m : Int) (G : F → Prop) (L : Pv) : Prop := ∀ k r, (k, r) ∈ L → In m (Hi m G (k + 1)) (fun i => m / at_ r k * at_ r i)
theorem nodup_val {L : Pv} (h : (L.map (·.1)).Nodup) {k : Nat} {r s : List Int} (h1 : (k, r) ∈ L) (h2 : (k, s) ∈ L) : r = s := by
  induction L with
  | nil => cases h1
  | cons p L ih =>
    rw [List.map_cons, List.nodup_cons] at h
    have key : ∀ {x}, (k, x) ∈ L → k ∈ L.map (·.1) := fun hx => List.mem_map.mpr ⟨_, hx, rfl⟩
    rcases List.mem_cons.mp h1 with e1 | e1 <;> rcases List.mem_cons.mp h2 with e2 | e2
    · rw [← e1] at e2; exact (Prod.mk.inj e2).2.symm
    · subst e1; exact absurd (key e2) h.1
    · subst e2; exact absurd (key e1) h.1
    · exact ih h.2 e1 e2
section
variable {m : Int} {n : Nat} {L : Pv} {f : F} {k : Nat}
/-- a generator that vanishes below k leads at k or behind -/
theorem Piv.lead (p : Piv m n L) (hm : 0 < m) {j : Nat} {s : List Int} (hj : (j, s) ∈ L) (hz : ∀ i, i < k → m ∣ at_ s i) : k ≤ j := by
  apply Nat.le_of_not_lt
  intro hlt
  have r := p.ok _ _ hj
  have := small_dvd (r.toVec.at hm j) (hz j hlt)
  have := r.pos
  omega
/-- the members that vanish below k are spanned by the rows that lead at k or behind -/
theorem howell (p : Piv m n L) (hm : 0 < m) (hw : How m (Gen L) L) (x : In m (Gen L) f) : ∀ k, (∀ i, i < k → m ∣ f i) → In m (Hi m (Gen L) k) f
  | 0, _ => x.weak fun g hg => ⟨hg, fun i hi => absurd hi (Nat.not_lt_zero i)⟩
  | k + 1, hz => by
    have ih := howell p hm hw x k fun i hi => hz i (by omega)
    by_cases hr : ∃ r, (k, r) ∈ L
    · obtain ⟨r, hr⟩ := hr
      have R := p.ok _ _ hr
      have dec : ∀ {f : F}, In m (Hi m (Gen L) k) f → ∃ c g, In m (Hi m (Gen L) (k + 1)) g ∧ ∀ i, m ∣ f i - (g i + c * at_ r i) := by
        intro f y
        induction y with
        | zero z => exact ⟨0, fun _ => 0, .zero fun _ => Int.dvd_zero _, fun i => by
            obtain ⟨q, hq⟩ := z i
            exact ⟨q, by grind⟩⟩
        | step c hg hf hh ih =>
          rename_i f1 g1 h1
          obtain ⟨c0, g0, i0, e0⟩ := ih
          obtain ⟨⟨j, s, hj, rfl⟩, hv⟩ := hg
          have hkj := p.lead hm hj hv
          by_cases e : k = j
          · subst e
            have := nodup_val p.nd hr hj
            subst this
            refine ⟨c0 + c, g0, i0, fun i => ?_⟩
            obtain ⟨q, hq⟩ := e0 i
            obtain ⟨q', hq'⟩ := hh i
            exact ⟨q + q', by grind⟩
          · have hs : Hi m (Gen L) (k + 1) (at_ s) := ⟨⟨j, s, hj, rfl⟩, fun i hi => by rw [(p.ok _ _ hj).zer i (by omega)]; exact Int.dvd_zero _⟩
            refine ⟨c0, fun i => g0 i + c * at_ s i, .step c hs i0 fun i => ⟨0, by grind⟩, fun i => ?_⟩
            obtain ⟨q, hq⟩ := e0 i
            obtain ⟨q', hq'⟩ := hh i
            exact ⟨q + q', by grind⟩
      obtain ⟨c, g, ig, e⟩ := dec ih
      have hgk : m ∣ g k := ig.all_dvd (Int.dvd_refl m) fun x hx => hx.2 k (by omega)
      have hck : m ∣ c * at_ r k := by
        obtain ⟨q, hq⟩ := e k
        obtain ⟨q1, hq1⟩ := hgk
        obtain ⟨q2, hq2⟩ := hz k (by omega)
        exact ⟨q2 - q - q1, by grind⟩
      obtain ⟨d, hd⟩ := R.dvd
      have hp := R.pos
      have hmd : m / at_ r k = d := by
        rw [hd, Int.mul_ediv_cancel_left _ (by omega)]
      obtain ⟨q, hq⟩ := hck
      have hc : c = q * d := by
        have : at_ r k * (c - q * d) = 0 := by rw [hd] at hq; grind
        rcases Int.mul_eq_zero.mp this with h | h
        · omega
        · omega
      have ht := hw k r hr
      rw [hmd] at ht
      exact ig.lin (a := 1) (b := q) ht fun i => by
        obtain ⟨z, hz⟩ := e i
        exact ⟨z, by grind⟩
    · refine ih.weak fun g hg => ?_
      obtain ⟨⟨j, s, hj, rfl⟩, hv⟩ := hg
      have hkj := p.lead hm hj hv
      have : k ≠ j := fun e => hr ⟨s, e ▸ hj⟩
      exact ⟨⟨j, s, hj, rfl⟩, fun i hi => by rw [(p.ok _ _ hj).zer i (by omega)]; exact Int.dvd_zero _⟩
/-- the first entry of a member: a multiple of the row's that leads there -/
theorem howell_lead (p : Piv m n L) (hm : 0 < m) (hw : How m (Gen L) L) (x : In m (Gen L) f) (hz : ∀ i, i < k → m ∣ f i) :
    (∀ r, (k, r) ∈ L → at_ r k ∣ f k) ∧ ((∀ r, (k, r) ∉ L) → m ∣ f k) := by
  have y := howell p hm hw x k hz
  constructor
  · intro r hr
    have R := p.ok _ _ hr
    refine y.all_dvd R.dvd fun g hg => ?_
    obtain ⟨⟨j, s, hj, rfl⟩, hv⟩ := hg
    have hkj := p.lead hm hj hv
    by_cases e : k = j
    · subst e
      rw [nodup_val p.nd hr hj]; exact Int.dvd_refl _
    · rw [(p.ok _ _ hj).zer k (by omega)]; exact Int.dvd_zero _
  · intro hno
    refine y.all_dvd (Int.dvd_refl m) fun g hg => ?_
    obtain ⟨⟨j, s, hj, rfl⟩, hv⟩ := hg
    have hkj := p.lead hm hj hv
    have : k ≠ j := fun e => hno s (e ▸ hj)
    rw [(p.ok _ _ hj).zer k (by omega)]; exact Int.dvd_zero _
end
end WM
end
section
namespace WM

/-! ### what a replacement of generators keeps -/
/-- every A vanishing so far is spanned by such B -/
def Sub (m : Int) (A B : F → Prop) : Prop := ∀ x, A x → ∀ k, (∀ i, i < k → m ∣ x i) → In m (Hi m B k) x
section
variable {m : Int} {A B C : F → Prop} {f : F}
theorem Hi.sub (G : F → Prop) (k : Nat) {g : F} (h : Hi m G k g) : G g := h.1
theorem Sub.hi (h : Sub m A B) (k : Nat) (x : In m (Hi m A k) f) : In m (Hi m B k) f := x.mono fun g hg => h g hg.1 k hg.2
theorem Sub.all (h : Sub m A B) (x : In m A f) : In m B f := x.mono fun g hg => (h g hg 0 fun i hi => absurd hi (Nat.not_lt_zero i)).weak fun _ => Hi.sub B 0
theorem Sub.of (h : ∀ x, A x → B x) : Sub m A B := fun x hx _ hv => .gen ⟨h x hx, hv⟩
theorem Sub.how {L : Pv} (h : Sub m A B) (w : How m A L) : How m B L := fun k r hr => h.hi (k + 1) (w k r hr)
end

/-! ### the state of insert: pivots and what is pending -/
def Pend (ps : List (List Int)) : F → Prop := fun f => ∃ v, v ∈ ps ∧ f = at_ v
def Both (L : Pv) (ps : List (List Int)) : F → Prop := fun f => Gen L f ∨ Pend ps f
structure InsOk (m : Int) (n : Nat) (G : F → Prop) (L : Pv) (ps : List (List Int)) : Prop where
  piv : Piv m n L
  vec : ∀ v, v ∈ ps → Vec m n v
  how : How m (Both L ps) L
  fwd : ∀ f, G f → In m (Both L ps) f
  bwd : ∀ f, Both L ps f → In m G f

/-- the first index below n whose entry isn't 0, or n -/
def lead : Nat → F → Nat
  | 0, _ => 0
  | n + 1, f => if f 0 = 0 then lead n (fun i => f (i + 1)) + 1 else 0
theorem lead_le : ∀ (n : Nat) (f : F), lead n f ≤ n
  | 0, _ => Nat.le_refl 0
  | n + 1, f => by
    unfold lead
    split
    · have := lead_le n (fun i => f (i + 1)); omega
    · omega
theorem lead_zero : ∀ (n : Nat) (f : F) (i : Nat), i < lead n f → f i = 0
  | 0, _, i, h => absurd h (Nat.not_lt_zero i)
  | n + 1, f, i, h => by
    unfold lead at h
    split at h
    · rename_i h0
      cases i with
      | zero => exact h0
      | succ i => exact lead_zero n (fun i => f (i + 1)) i (by omega)
    · omega
theorem lead_at : ∀ (n : Nat) (f : F), lead n f < n → f (lead n f) ≠ 0
  | 0, _, h => absurd h (Nat.not_lt_zero _)
  | n + 1, f, h => by
    unfold lead at h ⊢
    split
    · rename_i h0
      rw [if_pos h0] at h
      exact lead_at n (fun i => f (i + 1)) (by omega)
    · assumption
theorem lead_ge {n k : Nat} {f : F} (hk : k ≤ n) (h : ∀ i, i < k → f i = 0) : k ≤ lead n f := by
  apply Nat.le_of_not_lt
  intro hl
  exact lead_at n f (Nat.lt_of_lt_of_le hl hk) (h _ hl)
theorem lead_eq {n k : Nat} {f : F} (hk : k < n) (h : ∀ i, i < k → f i = 0) (h2 : f k ≠ 0) : lead n f = k := by
  have h1 := lead_ge (Nat.le_of_lt hk) h
  apply Nat.le_antisymm _ h1
  apply Nat.le_of_not_lt
  intro hl
  exact h2 (lead_zero n f k hl)

section
variable {m : Int} {n : Nat} {G : F → Prop} {L : Pv} {ps : List (List Int)} {c : List Int}
theorem both_mono {L' : Pv} {ps' : List (List Int)} (h1 : ∀ p ∈ L, p ∈ L') (h2 : ∀ v ∈ ps, v ∈ ps') {f : F} (h : Both L ps f) : Both L' ps' f := by
  rcases h with ⟨k, r, hr, e⟩ | ⟨v, hv, e⟩
  · exact .inl ⟨k, r, h1 _ hr, e⟩
  · exact .inr ⟨v, h2 _ hv, e⟩
theorem InsOk.swap {L' : Pv} {ps' : List (List Int)} (x : InsOk m n G L ps) (p : Piv m n L') (v : ∀ v, v ∈ ps' → Vec m n v) (s : Sub m (Both L ps) (Both L' ps')) (b : ∀ f, Both L' ps' f → In m (Both L ps) f)
    (hw : How m (Both L' ps') L') : InsOk m n G L' ps' :=
  ⟨p, v, hw, fun f hf => s.all (x.fwd f hf), fun f hf => (b f hf).mono x.bwd⟩
theorem Vec.zero_of {v : List Int} (h : Vec m n v) (hz : ∀ i, i < n → at_ v i = 0) (i : Nat) : at_ v i = 0 := by
  by_cases hi : i < n
  · exact hz i hi
  · exact at_out (by have := h.len; omega)
/-- a pending zero vector is left out -/
theorem InsOk.zero (x : InsOk m n G L (ps ++ [c])) (hz : ∀ i, i < n → at_ c i = 0) : InsOk m n G L ps := by
  have hv := x.vec c (by simp)
  have s : Sub m (Both L (ps ++ [c])) (Both L ps) := by
    intro f hf k hk
    rcases hf with hf | ⟨v, hm, rfl⟩
    · exact .gen ⟨.inl hf, hk⟩
    · rcases List.mem_append.mp hm with hm | hm
      · exact .gen ⟨.inr ⟨v, hm, rfl⟩, hk⟩
      · rw [List.mem_singleton.mp hm]
        exact .zero fun i => by rw [hv.zero_of hz i]; exact Int.dvd_zero _
  exact x.swap x.piv (fun v h => x.vec v (by simp [h])) s (fun f hf => .gen (both_mono (fun _ h => h) (fun v h => by simp [h]) hf)) (s.how x.how)
/-- the row at k is left, the current vector's rest is pending -/
theorem InsOk.red (hm : 0 < m) (x : InsOk m n G L (ps ++ [c])) {k : Nat} {r : List Int} (hr : (k, r) ∈ L) (hk : ∀ i, i < k → at_ c i = 0) {q : Int} (hq : at_ c k = at_ r k * q) :
    InsOk m n G L (ps ++ [comb m 1 c (-q) r]) := by
  have hv := x.vec c (by simp)
  have R := x.piv.ok _ _ hr
  have hl : c.length = r.length := by rw [hv.len, R.len]
  have ne : at_ c k = 0 ∨ ∀ j, (∀ i, i < j → m ∣ at_ c i) → j ≤ k := by
    by_cases e : at_ c k = 0
    · exact .inl e
    · refine .inr fun j hj => Nat.le_of_not_lt fun hlt => e (small_dvd (hv.at hm k) (hj k hlt))
  have new_at : ∀ i, m ∣ at_ (comb m 1 c (-q) r) i - (at_ c i - q * at_ r i) := fun i => by
    obtain ⟨z, hz⟩ := comb_cg (m := m) (a := 1) (b := -q) hl i
    exact ⟨z, by grind⟩
  have s : Sub m (Both L (ps ++ [c])) (Both L (ps ++ [comb m 1 c (-q) r])) := by
    intro f hf j hj
    rcases hf with hf | ⟨v, hm', rfl⟩
    · exact .gen ⟨.inl hf, hj⟩
    · rcases List.mem_append.mp hm' with hm' | hm'
      · exact .gen ⟨.inr ⟨v, by simp [hm'], rfl⟩, hj⟩
      · rw [List.mem_singleton.mp hm'] at hj ⊢
        by_cases hjk : j ≤ k
        · have g1 : In m (Hi m (Both L (ps ++ [comb m 1 c (-q) r])) j) (at_ (comb m 1 c (-q) r)) := .gen ⟨.inr ⟨_, by simp, rfl⟩, fun i hi => by
            have := new_at i
            rw [hk i (by omega), R.zer i (by omega)] at this
            simpa using this⟩
          have g2 : In m (Hi m (Both L (ps ++ [comb m 1 c (-q) r])) j) (at_ r) := .gen ⟨.inl ⟨k, r, hr, rfl⟩, fun i hi => by rw [R.zer i (by omega)]; exact Int.dvd_zero _⟩
          exact g1.lin (a := 1) (b := q) g2 fun i => by
            obtain ⟨z, hz⟩ := new_at i
            exact ⟨-z, by grind⟩
        · rcases ne with ne | ne
          · -- the entry at k is 0: nothing is taken off
            have q0 : q = 0 := by
              have := R.pos
              rw [ne] at hq
              rcases Int.mul_eq_zero.mp hq.symm with h | h <;> omega
            refine .cg (f := at_ (comb m 1 c (-q) r)) (.gen ⟨.inr ⟨_, by simp, rfl⟩, fun i hi => ?_⟩) fun i => ?_
            · have := new_at i
              have e0 : q * at_ r i = 0 := by rw [q0]; exact Int.zero_mul _
              obtain ⟨z, hz⟩ := this
              obtain ⟨z2, hz2⟩ := hj i hi
              exact ⟨z + z2, by grind⟩
            · obtain ⟨z, hz⟩ := new_at i
              have e0 : q * at_ r i = 0 := by rw [q0]; exact Int.zero_mul _
              exact ⟨-z, by grind⟩
          · exact absurd (ne j hj) hjk
  refine x.swap x.piv (fun v h => ?_) s (fun f hf => ?_) (s.how x.how)
  · rcases List.mem_append.mp h with h | h
    · exact x.vec v (by simp [h])
    · rw [List.mem_singleton.mp h]; exact .comb hm hv.len R.len
  · rcases hf with hf | ⟨v, hv', rfl⟩
    · exact .gen (.inl hf)
    · rcases List.mem_append.mp hv' with hv' | hv'
      · exact .gen (.inr ⟨v, by simp [hv'], rfl⟩)
      · rw [List.mem_singleton.mp hv']
        have g1 : In m (Both L (ps ++ [c])) (at_ c) := .gen (.inr ⟨c, by simp, rfl⟩)
        have g2 : In m (Both L (ps ++ [c])) (at_ r) := .gen (.inl ⟨k, r, hr, rfl⟩)
        exact g1.lin (a := 1) (b := -q) g2 fun i => by
          obtain ⟨z, hz⟩ := new_at i
          exact ⟨z, by grind⟩
/-- d[k] = r -/
def putP (L : Pv) (k : Nat) (r : List Int) : Pv := if (L.any fun p => p.1 == k) = true then L.map fun p => if p.1 = k then (k, r) else p else L ++ [(k, r)]
theorem putP_keys (L : Pv) (k : Nat) (r : List Int) : (putP L k r).map (·.1) = if (L.any fun p => p.1 == k) = true then L.map (·.1) else L.map (·.1) ++ [k] := by
  unfold putP
  split
  · rw [List.map_map]
    apply List.map_congr_left
    intro p _
    simp only [Function.comp_apply]
    split
    · rename_i h; exact h.symm
    · rfl
  · simp
theorem any_key {L : Pv} {k : Nat} : (L.any fun p => p.1 == k) = true ↔ k ∈ L.map (·.1) := by
  simp
theorem putP_nd {L : Pv} {k : Nat} {r : List Int} (h : (L.map (·.1)).Nodup) : ((putP L k r).map (·.1)).Nodup := by
  rw [putP_keys]
  split
  · exact h
  · rename_i hn
    rw [any_key] at hn
    rw [List.nodup_append]
    refine ⟨h, by simp, fun a ha b hb => ?_⟩
    rw [List.mem_singleton.mp hb]
    intro e; exact hn (e ▸ ha)
theorem mem_putP {L : Pv} {k : Nat} {r : List Int} {j : Nat} {s : List Int} : (j, s) ∈ putP L k r ↔ (j = k ∧ s = r) ∨ (j ≠ k ∧ (j, s) ∈ L) := by
  unfold putP
  split
  · rename_i h
    rw [List.mem_map]
    constructor
    · rintro ⟨p, hp, e⟩
      split at e
      · injection e with e1 e2
        exact .inl ⟨e1.symm, e2.symm⟩
      · rename_i hne
        subst e
        exact .inr ⟨hne, hp⟩
    · rintro (⟨rfl, rfl⟩ | ⟨h1, h2⟩)
      · rw [List.any_eq_true] at h
        obtain ⟨p, hp, e⟩ := h
        exact ⟨p, hp, by rw [if_pos (by simpa using e)]⟩
      · exact ⟨(j, s), h2, by rw [if_neg h1]⟩
  · rename_i h
    rw [any_key] at h
    rw [List.mem_append, List.mem_singleton]
    constructor
    · rintro (h1 | h1)
      · by_cases e : j = k
        · subst e; exact absurd (List.mem_map.mpr ⟨_, h1, rfl⟩) h
        · exact .inr ⟨e, h1⟩
      · injection h1 with e1 e2
        exact .inl ⟨e1, e2⟩
    · rintro (⟨rfl, rfl⟩ | ⟨_, h2⟩)
      · exact .inr rfl
      · exact .inl h2
theorem Piv.put {k : Nat} {r : List Int} (x : Piv m n L) (R : Row m n k r) : Piv m n (putP L k r) := by
  refine ⟨putP_nd x.nd, fun j s h => ?_⟩
  rcases mem_putP.mp h with ⟨rfl, rfl⟩ | ⟨_, h⟩
  · exact R
  · exact x.ok _ _ h
/-- the pivot at k is set to p; what p does not give of the current vector and the elder pivot is pending, so is p's torsion -/
theorem InsOk.put (hm : 0 < m) (x : InsOk m n G L (ps ++ [c])) {k : Nat} {p : List Int} (R : Row m n k p) (hk : ∀ i, i < k → at_ c i = 0) (hck : at_ c k ≠ 0) {qs : List (List Int)} (hq : ∀ v ∈ qs, Vec m n v ∧ ∀ i, i ≤ k → at_ v i = 0)
    (hc : In m (fun f => f = at_ p ∨ Pend qs f) (at_ c)) (he : ∀ r, (k, r) ∈ L → In m (fun f => f = at_ p ∨ Pend qs f) (at_ r))
    (hp : In m (Both L (ps ++ [c])) (at_ p)) (hqs : ∀ v ∈ qs, In m (Both L (ps ++ [c])) (at_ v)) :
    InsOk m n G (putP L k p) (ps ++ qs ++ [comb m (m / at_ p k) p 0 p]) := by
  have hv := x.vec c (by simp)
  have tor_at : ∀ i, m ∣ at_ (comb m (m / at_ p k) p 0 p) i - m / at_ p k * at_ p i := fun i => by
    obtain ⟨z, hz⟩ := comb_cg (m := m) (a := m / at_ p k) (b := 0) (u := p) (v := p) rfl i
    exact ⟨z, by grind⟩
  have tor_z : ∀ i, i ≤ k → at_ (comb m (m / at_ p k) p 0 p) i = 0 := fun i hi => by
    refine small_dvd (Vec.at (n := n) (.comb hm R.len R.len) hm i) ?_
    by_cases e : i = k
    · subst e
      have := tor_at i
      rw [Int.ediv_mul_cancel R.dvd] at this
      exact dvd_of_sub this (Int.dvd_refl m)
    · have := tor_at i
      rw [R.zer i (by omega)] at this
      simpa using this
  have newin : ∀ j, j ≤ k → ∀ f, (f = at_ p ∨ Pend qs f) → Hi m (Both (putP L k p) (ps ++ qs ++ [comb m (m / at_ p k) p 0 p])) j f := by
    intro j hj f hf
    rcases hf with rfl | ⟨v, hv', rfl⟩
    · exact ⟨.inl ⟨k, p, mem_putP.mpr (.inl ⟨rfl, rfl⟩), rfl⟩, fun i hi => by rw [R.zer i (by omega)]; exact Int.dvd_zero _⟩
    · exact ⟨.inr ⟨v, by simp [hv'], rfl⟩, fun i hi => by rw [(hq v hv').2 i (by omega)]; exact Int.dvd_zero _⟩
  have le_of : ∀ {v : List Int}, Vec m n v → at_ v k ≠ 0 → ∀ j, (∀ i, i < j → m ∣ at_ v i) → j ≤ k := fun {v} V e j hj =>
    Nat.le_of_not_lt fun hlt => e (small_dvd (V.at hm k) (hj k hlt))
  have s : Sub m (Both L (ps ++ [c])) (Both (putP L k p) (ps ++ qs ++ [comb m (m / at_ p k) p 0 p])) := by
    intro f hf j hj
    rcases hf with ⟨i, r, hr, rfl⟩ | ⟨v, hm', rfl⟩
    · by_cases e : i = k
      · subst e
        have Rr := x.piv.ok _ _ hr
        have hj' := le_of Rr.toVec (by have := Rr.pos; omega) j hj
        exact (he r hr).weak (newin j hj')
      · exact .gen ⟨.inl ⟨i, r, mem_putP.mpr (.inr ⟨e, hr⟩), rfl⟩, hj⟩
    · rcases List.mem_append.mp hm' with hm' | hm'
      · exact .gen ⟨.inr ⟨v, by simp [hm'], rfl⟩, hj⟩
      · rw [List.mem_singleton.mp hm'] at hj ⊢
        exact hc.weak (newin j (le_of hv hck j hj))
  have hb : ∀ f, Both (putP L k p) (ps ++ qs ++ [comb m (m / at_ p k) p 0 p]) f → In m (Both L (ps ++ [c])) f := by
    intro f hf
    rcases hf with ⟨i, r, hr, rfl⟩ | ⟨v, hm', rfl⟩
    · rcases mem_putP.mp hr with ⟨_, rfl⟩ | ⟨_, hr⟩
      · exact hp
      · exact .gen (.inl ⟨i, r, hr, rfl⟩)
    · simp only [List.mem_append, List.mem_singleton] at hm'
      rcases hm' with (h | h) | rfl
      · exact .gen (.inr ⟨v, by simp [h], rfl⟩)
      · exact hqs v h
      · exact hp.smul _ tor_at
  refine x.swap (x.piv.put R) (fun v h => ?_) s hb ?_
  · simp only [List.mem_append, List.mem_singleton] at h
    rcases h with (h | h) | rfl
    · exact x.vec v (by simp [h])
    · exact (hq v h).1
    · exact .comb hm R.len R.len
  · intro j r hr
    rcases mem_putP.mp hr with ⟨rfl, rfl⟩ | ⟨_, hr⟩
    · refine .cg (f := at_ (comb m (m / at_ r j) r 0 r)) (.gen ⟨.inr ⟨_, by simp, rfl⟩, fun i hi => by rw [tor_z i (by omega)]; exact Int.dvd_zero _⟩) fun i => ?_
      obtain ⟨z, hz⟩ := tor_at i
      exact ⟨-z, by grind⟩
    · exact s.hi (j + 1) (x.how j r hr)
end
end WM
end
section
namespace WM

/-! ### the measure of insert's loop -/
def wt (n : Nat) (v : List Int) : Nat := n + 1 - lead n (at_ v)
def pw (n : Nat) (ps : List (List Int)) : Nat := (ps.map (wt n)).sum
def val (m : Int) (L : Pv) (k : Nat) : Nat := match L.lookup k with
  | some r => (at_ r k).toNat
  | none => m.toNat
def tot (m : Int) (n : Nat) (L : Pv) : Nat := ((List.range n).map (val m L)).sum
def msr (m : Int) (n : Nat) (L : Pv) (ps : List (List Int)) : Nat := pw n ps + 3 * (n + 1) * tot m n L
theorem pw_app (n : Nat) (ps qs : List (List Int)) : pw n (ps ++ qs) = pw n ps + pw n qs := by
  simp [pw]
theorem pw_one (n : Nat) (v : List Int) : pw n [v] = wt n v := by simp [pw]
theorem wt_pos (n : Nat) (v : List Int) : 1 ≤ wt n v := by
  have := lead_le n (at_ v)
  unfold wt; omega
theorem wt_behind {n k : Nat} {v : List Int} (hk : k < n) (h : ∀ i, i ≤ k → at_ v i = 0) : wt n v ≤ n - k := by
  have := lead_ge (n := n) (k := k + 1) (f := at_ v) hk fun i hi => h i (by omega)
  unfold wt; omega
theorem msr_zero {m : Int} {n : Nat} {L : Pv} {ps : List (List Int)} {c : List Int} : msr m n L ps < msr m n L (ps ++ [c]) := by
  unfold msr
  rw [pw_app, pw_one]
  have := wt_pos n c
  omega
theorem msr_red {m : Int} {n k : Nat} {L : Pv} {ps : List (List Int)} {c v : List Int} (hk : k < n) (hc : ∀ i, i < k → at_ c i = 0) (hck : at_ c k ≠ 0) (hv : ∀ i, i ≤ k → at_ v i = 0) :
    msr m n L (ps ++ [v]) < msr m n L (ps ++ [c]) := by
  unfold msr
  rw [pw_app, pw_app, pw_one, pw_one]
  have h1 := wt_behind hk hv
  have h2 : wt n c = n + 1 - k := by unfold wt; rw [lead_eq hk hc hck]
  omega
theorem lookup_mem {L : Pv} {k : Nat} {r : List Int} (h : L.lookup k = some r) : (k, r) ∈ L := by
  induction L with
  | nil => cases h
  | cons p L ih =>
    obtain ⟨j, s⟩ := p
    rw [List.lookup_cons] at h
    by_cases e : k = j
    · subst e; simp at h; subst h; simp
    · have : (k == j) = false := by simpa using e
      rw [this] at h
      exact List.mem_cons_of_mem _ (ih h)
theorem lookup_none {L : Pv} {k : Nat} (h : L.lookup k = none) (r : List Int) : (k, r) ∉ L := by
  induction L with
  | nil => exact fun h => nomatch h
  | cons p L ih =>
    obtain ⟨j, s⟩ := p
    rw [List.lookup_cons] at h
    by_cases e : k = j
    · subst e; simp at h
    · have : (k == j) = false := by simpa using e
      rw [this] at h
      intro hm
      rcases List.mem_cons.mp hm with hm | hm
      · injection hm with e1 _; exact e e1
      · exact ih h hm
theorem lookup_of {L : Pv} (nd : (L.map (·.1)).Nodup) {k : Nat} {r : List Int} (h : (k, r) ∈ L) : L.lookup k = some r := by
  cases e : L.lookup k with
  | none => exact absurd h (lookup_none e r)
  | some s => rw [nodup_val nd h (lookup_mem e)]
theorem lookup_put {L : Pv} (nd : (L.map (·.1)).Nodup) (k : Nat) (r : List Int) (j : Nat) : (putP L k r).lookup j = if j = k then some r else L.lookup j := by
  split
  · rename_i e
    subst e
    exact lookup_of (putP_nd nd) (mem_putP.mpr (.inl ⟨rfl, rfl⟩))
  · rename_i e
    cases h : L.lookup j with
    | none =>
      cases h2 : (putP L k r).lookup j with
      | none => rfl
      | some s =>
        rcases mem_putP.mp (lookup_mem h2) with ⟨e2, _⟩ | ⟨_, h3⟩
        · exact absurd e2 e
        · exact absurd h3 (lookup_none h s)
    | some s => exact lookup_of (putP_nd nd) (mem_putP.mpr (.inr ⟨e, lookup_mem h⟩))
theorem sum_lt {f g : Nat → Nat} {k : Nat} : ∀ {l : List Nat}, (∀ i ∈ l, f i ≤ g i) → k ∈ l → f k < g k → (l.map f).sum < (l.map g).sum
  | [], _, h, _ => nomatch h
  | a :: l, h1, h2, h3 => by
    have ha := h1 a (by simp)
    have hl : (l.map f).sum ≤ (l.map g).sum := by
      clear h2 h3
      induction l with
      | nil => simp
      | cons b l ih =>
        have h0 := h1 b (by simp)
        have := ih fun i hi => by
          rcases List.mem_cons.mp hi with h | h
          · exact h1 i (by simp [h])
          · exact h1 i (by simp [h])
        simp only [List.map_cons, List.sum_cons]
        omega
    simp only [List.map_cons, List.sum_cons]
    rcases List.mem_cons.mp h2 with e | e
    · subst e; omega
    · have := sum_lt (fun i hi => h1 i (by simp [hi])) e h3
      omega
theorem msr_put {m : Int} {n k : Nat} {L : Pv} {ps qs : List (List Int)} {c p t : List Int} (nd : (L.map (·.1)).Nodup) (hk : k < n) (hq : ∀ v ∈ qs, ∀ i, i ≤ k → at_ v i = 0) (hl : qs.length ≤ 2) (ht : ∀ i, i ≤ k → at_ t i = 0)
    (hp : 0 < at_ p k) (hm : at_ p k < m) (hr : ∀ r, (k, r) ∈ L → at_ p k < at_ r k) : msr m n (putP L k p) (ps ++ qs ++ [t]) < msr m n L (ps ++ [c]) := by
  have h1 : tot m n (putP L k p) < tot m n L := by
    unfold tot
    refine sum_lt (k := k) (fun i _ => ?_) (List.mem_range.mpr hk) ?_
    · unfold val
      rw [lookup_put nd]
      split
      · rename_i h
        by_cases e : i = k
        · subst e
          simp at h
          subst h
          cases h2 : L.lookup i with
          | none => dsimp only; omega
          | some r => have := hr r (lookup_mem h2); dsimp only; omega
        · rw [if_neg e] at h
          rw [h]; exact Nat.le_refl _
      · rename_i h
        by_cases e : i = k
        · subst e; simp at h
        · rw [if_neg e] at h
          rw [h]
          exact Nat.le_refl _
    · unfold val
      rw [lookup_put nd, if_pos rfl]
      cases h2 : L.lookup k with
      | none => dsimp only; omega
      | some r => have := hr r (lookup_mem h2); dsimp only; omega
  have h2 : pw n qs ≤ 2 * n := by
    have : pw n qs ≤ qs.length * n := by
      clear hl
      induction qs with
      | nil => simp [pw]
      | cons q qs ih =>
        have hq0 := wt_behind hk (hq q (by simp))
        have := ih fun v hv => hq v (by simp [hv])
        have e : pw n (q :: qs) = wt n q + pw n qs := by simp [pw]
        rw [e, List.length_cons, Nat.succ_mul]
        omega
    exact Nat.le_trans this (Nat.mul_le_mul_right _ hl)
  have h3 := wt_behind hk ht
  have h4 := wt_pos n c
  unfold msr
  rw [pw_app, pw_app, pw_app, pw_one, pw_one]
  have h5 : 3 * (n + 1) * (tot m n (putP L k p) + 1) ≤ 3 * (n + 1) * tot m n L := Nat.mul_le_mul_left _ h1
  rw [Nat.mul_add, Nat.mul_one] at h5
  omega

/-! ### Bezout -/
theorem bez_nat (a b : Nat) : ∃ s t : Int, (Nat.gcd a b : Int) = s * a + t * b := by
  induction a, b using Nat.gcd.induction with
  | H0 n => exact ⟨0, 1, by simp⟩
  | H1 m n hm ih =>
    obtain ⟨s, t, h⟩ := ih
    refine ⟨t - s * ((n / m : Nat) : Int), s, ?_⟩
    rw [Nat.gcd_rec, h]
    have : (n : Int) = ((n % m : Nat) : Int) + (m : Int) * ((n / m : Nat) : Int) := by
      have := Nat.mod_add_div n m
      exact_mod_cast this.symm
    grind
theorem bez (a b : Int) : ∃ s t : Int, (Int.gcd a b : Int) = a * s + b * t := by
  obtain ⟨s, t, h⟩ := bez_nat a.natAbs b.natAbs
  have ha : ∃ e : Int, (a.natAbs : Int) = a * e := by
    rcases Int.natAbs_eq a with h | h
    · exact ⟨1, by omega⟩
    · exact ⟨-1, by omega⟩
  have hb : ∃ e : Int, (b.natAbs : Int) = b * e := by
    rcases Int.natAbs_eq b with h | h
    · exact ⟨1, by omega⟩
    · exact ⟨-1, by omega⟩
  obtain ⟨e1, h1⟩ := ha
  obtain ⟨e2, h2⟩ := hb
  refine ⟨e1 * s, e2 * t, ?_⟩
  show ((Nat.gcd a.natAbs b.natAbs : Nat) : Int) = _
  rw [h, h1, h2]
  grind

/-! ### the two ways to set a pivot -/
section
variable {m : Int} {n : Nat} {G : F → Prop} {L : Pv} {ps : List (List Int)} {c : List Int}
theorem ins_new (hm : 0 < m) (x : InsOk m n G L (ps ++ [c])) {k : Nat} (hkn : k < n) (hk : ∀ i, i < k → at_ c i = 0) (hck : at_ c k ≠ 0) (hno : ∀ r, (k, r) ∉ L) {u : Int} (hu : Int.gcd u m = 1)
    (he : u * at_ c k % m = (Int.gcd (at_ c k) m : Int)) :
    let p := comb m u c 0 c
    InsOk m n G (putP L k p) (ps ++ [] ++ [comb m (m / at_ p k) p 0 p]) ∧ msr m n (putP L k p) (ps ++ [] ++ [comb m (m / at_ p k) p 0 p]) < msr m n L (ps ++ [c]) ∧ at_ p k = (Int.gcd (at_ c k) m : Int) := by
  intro p
  have hv := x.vec c (by simp)
  have hcr := hv.at hm k
  have pe : at_ p k = (Int.gcd (at_ c k) m : Int) := by
    show at_ (comb m u c 0 c) k = _
    rw [at_comb rfl, ← he]; congr 1; grind
  have g0 : 0 < Int.gcd (at_ c k) m := Int.gcd_pos_of_ne_zero_left _ hck
  have gd : (Int.gcd (at_ c k) m : Int) ∣ at_ c k := Int.gcd_dvd_left ..
  have gm : (Int.gcd (at_ c k) m : Int) ∣ m := Int.gcd_dvd_right ..
  have gl : (Int.gcd (at_ c k) m : Int) < m := by
    have := Int.le_of_dvd (by omega) gd
    omega
  have V : Vec m n p := .comb hm hv.len hv.len
  have pz : ∀ i, i < k → at_ p i = 0 := fun i hi => by
    show at_ (comb m u c 0 c) i = 0
    rw [at_comb rfl, hk i hi]; simp
  have R : Row m n k p := { V with lt := hkn, pos := by rw [pe]; omega, zer := pz, dvd := by rw [pe]; exact gm }
  have pin : In m (Both L (ps ++ [c])) (at_ p) := by
    have : In m (Both L (ps ++ [c])) (at_ c) := .gen (.inr ⟨c, by simp, rfl⟩)
    refine this.smul u fun i => ?_
    obtain ⟨z, hz⟩ := comb_cg (m := m) (a := u) (b := 0) (u := c) (v := c) rfl i
    exact ⟨z, by grind⟩
  have cin : In m (fun f => f = at_ p ∨ Pend [] f) (at_ c) := by
    -- u has an inverse
    obtain ⟨ia, ib, hb⟩ := bez u m
    rw [hu] at hb
    have : In m (fun f => f = at_ p ∨ Pend [] f) (at_ p) := .gen (.inl rfl)
    refine this.smul (ia) fun i => ?_
    obtain ⟨z, hz⟩ := comb_cg (m := m) (a := u) (b := 0) (u := c) (v := c) rfl i
    refine ⟨ib * at_ c i - ia * z, ?_⟩
    have e1 : at_ p i = m * z + (u * at_ c i + 0 * at_ c i) := by
      show at_ (comb m u c 0 c) i = _
      omega
    rw [e1]
    have e2 : at_ c i = (u * ia + m * ib) * at_ c i := by
      rw [← hb]; simp
    grind
  have q := InsOk.put hm x (qs := []) R hk hck (fun v hv => nomatch hv) cin (fun r hr => absurd hr (hno r)) pin (fun v hv => nomatch hv)
  refine ⟨q, ?_, pe⟩
  refine msr_put x.piv.nd hkn (fun v hv => nomatch hv) (by simp) (fun i hi => ?_) R.pos (by rw [pe]; exact gl) (fun r hr => absurd hr (hno r))
  refine small_dvd (Vec.at (n := n) (.comb hm R.len R.len) hm i) ?_
  by_cases e : i = k
  · subst e
    have := comb_cg (m := m) (a := m / at_ p i) (b := 0) (u := p) (v := p) rfl i
    rw [Int.ediv_mul_cancel R.dvd] at this
    refine dvd_of_sub this ?_
    simp
  · have := comb_cg (m := m) (a := m / at_ p k) (b := 0) (u := p) (v := p) rfl i
    rw [R.zer i (by omega)] at this
    simpa using this
theorem ins_gcd (hm : 0 < m) (x : InsOk m n G L (ps ++ [c])) {k : Nat} {e : List Int} (hr : (k, e) ∈ L) (hk : ∀ i, i < k → at_ c i = 0) (hck : at_ c k ≠ 0) (hnd : ¬ at_ e k ∣ at_ c k) {s t : Int}
    (hg : (Int.gcd (at_ e k) (at_ c k) : Int) = s * at_ e k + t * at_ c k) :
    let g : Int := (Int.gcd (at_ e k) (at_ c k) : Int)
    let p := comb m s e t c
    let q1 := comb m 1 e (-(at_ e k / g)) p
    let q2 := comb m 1 c (-(at_ c k / g)) p
    InsOk m n G (putP L k p) (ps ++ [q1, q2] ++ [comb m (m / at_ p k) p 0 p]) ∧ msr m n (putP L k p) (ps ++ [q1, q2] ++ [comb m (m / at_ p k) p 0 p]) < msr m n L (ps ++ [c]) ∧ at_ p k = g := by
  intro g p q1 q2
  have hv := x.vec c (by simp)
  have R0 := x.piv.ok _ _ hr
  have hcr := hv.at hm k
  have her := R0.toVec.at hm k
  have hlc : e.length = c.length := by rw [R0.len, hv.len]
  have g0 : 0 < g := by
    have := Int.gcd_pos_of_ne_zero_left (at_ c k) (a := at_ e k) (by have := R0.pos; omega)
    show (0 : Int) < (Int.gcd (at_ e k) (at_ c k) : Int)
    omega
  have gd1 : g ∣ at_ e k := Int.gcd_dvd_left ..
  have gd2 : g ∣ at_ c k := Int.gcd_dvd_right ..
  have glt : g < at_ e k := by
    have h1 := Int.le_of_dvd R0.pos gd1
    rcases Int.lt_or_eq_of_le h1 with h | h
    · exact h
    · exact absurd (h ▸ gd2) hnd
  have V : Vec m n p := .comb hm R0.len hv.len
  have pe : at_ p k = g := by
    show at_ (comb m s e t c) k = g
    rw [at_comb hlc, ← hg]
    exact Int.emod_eq_of_lt (by omega) (by omega)
  have pz : ∀ i, i < k → at_ p i = 0 := fun i hi => by
    show at_ (comb m s e t c) i = 0
    rw [at_comb hlc, hk i hi, R0.zer i hi]; simp
  have R : Row m n k p := { V with lt := R0.lt, pos := by rw [pe]; exact g0, zer := pz, dvd := by rw [pe]; exact Int.dvd_trans gd1 R0.dvd }
  have hlep : e.length = p.length := by rw [R0.len, R.len]
  have hlcp : c.length = p.length := by rw [hv.len, R.len]
  have pcg : ∀ i, m ∣ at_ p i - (s * at_ e i + t * at_ c i) := fun i => comb_cg hlc i
  have q1cg : ∀ i, m ∣ at_ q1 i - (at_ e i - at_ e k / g * at_ p i) := fun i => by
    obtain ⟨z, hz⟩ := comb_cg (m := m) (a := 1) (b := -(at_ e k / g)) hlep i
    exact ⟨z, by grind⟩
  have q2cg : ∀ i, m ∣ at_ q2 i - (at_ c i - at_ c k / g * at_ p i) := fun i => by
    obtain ⟨z, hz⟩ := comb_cg (m := m) (a := 1) (b := -(at_ c k / g)) hlcp i
    exact ⟨z, by grind⟩
  have V1 : Vec m n q1 := .comb hm R0.len R.len
  have V2 : Vec m n q2 := .comb hm hv.len R.len
  have z1 : ∀ i, i ≤ k → at_ q1 i = 0 := fun i hi => by
    refine small_dvd (V1.at hm i) ?_
    by_cases ei : i = k
    · subst ei
      have := q1cg i
      rw [pe, Int.ediv_mul_cancel gd1] at this
      simpa using this
    · have := q1cg i
      rw [pz i (by omega), R0.zer i (by omega)] at this
      simpa using this
  have z2 : ∀ i, i ≤ k → at_ q2 i = 0 := fun i hi => by
    refine small_dvd (V2.at hm i) ?_
    by_cases ei : i = k
    · subst ei
      have := q2cg i
      rw [pe, Int.ediv_mul_cancel gd2] at this
      simpa using this
    · have := q2cg i
      rw [pz i (by omega), hk i (by omega)] at this
      simpa using this
  have hq : ∀ v ∈ [q1, q2], Vec m n v ∧ ∀ i, i ≤ k → at_ v i = 0 := fun v hv' => by
    simp only [List.mem_cons, List.not_mem_nil, or_false] at hv'
    rcases hv' with rfl | rfl
    · exact ⟨V1, z1⟩
    · exact ⟨V2, z2⟩
  have gp : In m (fun f => f = at_ p ∨ Pend [q1, q2] f) (at_ p) := .gen (.inl rfl)
  have gq1 : In m (fun f => f = at_ p ∨ Pend [q1, q2] f) (at_ q1) := .gen (.inr ⟨q1, by simp, rfl⟩)
  have gq2 : In m (fun f => f = at_ p ∨ Pend [q1, q2] f) (at_ q2) := .gen (.inr ⟨q2, by simp, rfl⟩)
  have ein : In m (fun f => f = at_ p ∨ Pend [q1, q2] f) (at_ e) := gq1.lin (a := 1) (b := at_ e k / g) gp fun i => by
    obtain ⟨z, hz⟩ := q1cg i
    exact ⟨-z, by grind⟩
  have cin : In m (fun f => f = at_ p ∨ Pend [q1, q2] f) (at_ c) := gq2.lin (a := 1) (b := at_ c k / g) gp fun i => by
    obtain ⟨z, hz⟩ := q2cg i
    exact ⟨-z, by grind⟩
  have be : In m (Both L (ps ++ [c])) (at_ e) := .gen (.inl ⟨k, e, hr, rfl⟩)
  have bc : In m (Both L (ps ++ [c])) (at_ c) := .gen (.inr ⟨c, by simp, rfl⟩)
  have bp : In m (Both L (ps ++ [c])) (at_ p) := be.lin (a := s) (b := t) bc pcg
  have bq : ∀ v ∈ [q1, q2], In m (Both L (ps ++ [c])) (at_ v) := fun v hv' => by
    simp only [List.mem_cons, List.not_mem_nil, or_false] at hv'
    rcases hv' with rfl | rfl
    · refine be.lin (a := 1) (b := -(at_ e k / g)) bp fun i => ?_
      obtain ⟨z, hz⟩ := q1cg i
      exact ⟨z, by grind⟩
    · refine bc.lin (a := 1) (b := -(at_ c k / g)) bp fun i => ?_
      obtain ⟨z, hz⟩ := q2cg i
      exact ⟨z, by grind⟩
  have q := InsOk.put hm x (qs := [q1, q2]) R hk hck hq cin (fun r hr' => by rw [← nodup_val x.piv.nd hr hr']; exact ein) bp bq
  refine ⟨q, ?_, pe⟩
  refine msr_put x.piv.nd R.lt (fun v hv' => (hq v hv').2) (by simp) (fun i hi => ?_) R.pos (by rw [pe]; omega) (fun r hr' => by rw [← nodup_val x.piv.nd hr hr', pe]; exact glt)
  refine small_dvd (Vec.at (n := n) (.comb hm R.len R.len) hm i) ?_
  by_cases ei : i = k
  · subst ei
    have := comb_cg (m := m) (a := m / at_ p i) (b := 0) (u := p) (v := p) rfl i
    rw [Int.ediv_mul_cancel R.dvd] at this
    refine dvd_of_sub this ?_
    simp
  · have := comb_cg (m := m) (a := m / at_ p k) (b := 0) (u := p) (v := p) rfl i
    rw [R.zer i (by omega)] at this
    simpa using this
end
/-- a family of pivots of the span of G -/
structure Hw (m : Int) (n : Nat) (G : F → Prop) (L : Pv) : Prop where
  piv : Piv m n L
  how : How m (Gen L) L
  fwd : ∀ f, G f → In m (Gen L) f
  bwd : ∀ f, Gen L f → In m G f
theorem InsOk.done {m : Int} {n : Nat} {G : F → Prop} {L : Pv} (x : InsOk m n G L []) : Hw m n G L := by
  have e : ∀ f, Both L [] f → Gen L f := fun f h => by
    rcases h with h | ⟨v, hv, _⟩
    · exact h
    · cases hv
  exact ⟨x.piv, fun k r h => (x.how k r h).weak fun g hg => ⟨e g hg.1, hg.2⟩, fun f hf => (x.fwd f hf).weak e, fun f hf => x.bwd f (.inl hf)⟩
theorem Hw.start {m : Int} {n : Nat} {G : F → Prop} {L : Pv} (x : Hw m n G L) {v : List Int} (hv : Vec m n v) : InsOk m n (fun f => G f ∨ f = at_ v) L [v] := by
  refine ⟨x.piv, fun u hu => by rw [List.mem_singleton.mp hu]; exact hv, fun k r h => (x.how k r h).weak fun g hg => ⟨.inl hg.1, hg.2⟩, fun f hf => ?_, fun f hf => ?_⟩
  · rcases hf with hf | rfl
    · exact (x.fwd f hf).weak fun g hg => .inl hg
    · exact .gen (.inr ⟨v, by simp, rfl⟩)
  · rcases hf with hf | ⟨u, hu, rfl⟩
    · exact (x.bwd f hf).weak fun g hg => .inl hg
    · rw [List.mem_singleton.mp hu]; exact .gen (.inr rfl)
theorem Hw.nil (m : Int) (n : Nat) : Hw m n (fun _ => False) [] :=
  ⟨⟨List.nodup_nil, fun _ _ h => nomatch h⟩, (fun _ _ h => nomatch h), (fun _ h => False.elim h), fun _ ⟨_, _, h, _⟩ => nomatch h⟩
theorem Hw.iff {m : Int} {n : Nat} {G : F → Prop} {L : Pv} (x : Hw m n G L) (f : F) : In m (Gen L) f ↔ In m G f := ⟨fun h => h.mono x.bwd, fun h => h.mono x.fwd⟩
theorem Hw.to {m : Int} {n : Nat} {G G' : F → Prop} {L : Pv} (x : Hw m n G L) (h1 : ∀ f, G' f → In m G f) (h2 : ∀ f, G f → In m G' f) : Hw m n G' L :=
  ⟨x.piv, x.how, fun f hf => (h1 f hf).mono x.fwd, fun f hf => (x.bwd f hf).mono h2⟩
end WM
end
section
namespace WM

theorem pos_fac {a d : Int} (ha : 0 < a) (h : 0 < a * d) : 0 < d := by
  rcases Int.lt_or_le 0 d with h1 | h1
  · exact h1
  · have := Int.mul_le_mul_of_nonneg_left h1 (Int.le_of_lt ha)
    omega

/-! ### tables: pivots in the order of their leads -/
structure Tab (m : Int) (n : Nat) (L : Pv) : Prop where
  piv : Piv m n L
  how : How m (Gen L) L
  srt : (L.map (·.1)).Pairwise (· < ·)
def red (m : Int) : Pv → List Int → List Int
  | [], v => v
  | (k, r) :: L, v => red m L (comb m 1 v (-(at_ v k / at_ r k)) r)
section
variable {m : Int} {n : Nat} {L : Pv} {v : List Int} {k : Nat} {r : List Int}
theorem gen_cons {f : F} : Gen ((k, r) :: L) f ↔ f = at_ r ∨ Gen L f := by
  constructor
  · rintro ⟨j, s, h, rfl⟩
    rcases List.mem_cons.mp h with e | e
    · injection e with _ e2; exact .inl (by rw [e2])
    · exact .inr ⟨j, s, e, rfl⟩
  · rintro (rfl | ⟨j, s, h, rfl⟩)
    · exact ⟨k, r, by simp, rfl⟩
    · exact ⟨j, s, by simp [h], rfl⟩
theorem Piv.tail (p : Piv m n ((k, r) :: L)) : Piv m n L := ⟨(List.nodup_cons.mp p.nd).2, fun j s h => p.ok j s (by simp [h])⟩
theorem Tab.lt (t : Tab m n ((k, r) :: L)) {j : Nat} {s : List Int} (h : (j, s) ∈ L) : k < j := by
  have := t.srt
  rw [List.map_cons, List.pairwise_cons] at this
  exact this.1 j (List.mem_map.mpr ⟨_, h, rfl⟩)
/-- rows behind k's are those of the tail -/
theorem Tab.hi (hm : 0 < m) (t : Tab m n ((k, r) :: L)) {j : Nat} (hj : k < j) {f : F} (h : Hi m (Gen ((k, r) :: L)) j f) : Hi m (Gen L) j f := by
  obtain ⟨⟨i, s, hi, rfl⟩, hv⟩ := h
  have hji := t.piv.lead hm hi hv
  rcases List.mem_cons.mp hi with e | e
  · injection e with e1 _; omega
  · exact ⟨⟨i, s, e, rfl⟩, hv⟩
theorem Tab.tail (hm : 0 < m) (t : Tab m n ((k, r) :: L)) : Tab m n L := by
  refine ⟨t.piv.tail, fun j s h => ?_, ?_⟩
  · exact (t.how j s (by simp [h])).weak fun g hg => t.hi hm (by have := t.lt h; omega) hg
  · have := t.srt
    rw [List.map_cons, List.pairwise_cons] at this
    exact this.2
theorem red_vec (hm : 0 < m) : ∀ {L : Pv} {v : List Int}, (∀ k r, (k, r) ∈ L → Row m n k r) → Vec m n v → Vec m n (red m L v)
  | [], _, _, h => h
  | (k, r) :: L, v, p, h => red_vec hm (L := L) (fun j s h => p j s (by simp [h])) (.comb hm h.len (p k r (by simp)).len)
theorem red_in (hm : 0 < m) : ∀ {L : Pv} {v : List Int}, (∀ k r, (k, r) ∈ L → Row m n k r) → Vec m n v → In m (Gen L) (fun i => at_ (red m L v) i - at_ v i)
  | [], v, _, _ => .zero fun i => by show m ∣ at_ v i - at_ v i; simp
  | (k, r) :: L, v, p, h => by
    have R := p k r (by simp)
    have h1 := red_in hm (L := L) (v := comb m 1 v (-(at_ v k / at_ r k)) r) (fun j s h => p j s (by simp [h])) (.comb hm h.len R.len)
    have h2 : In m (Gen ((k, r) :: L)) (at_ r) := .gen (gen_cons.mpr (.inl rfl))
    refine (h1.weak fun g hg => gen_cons.mpr (.inr hg)).lin (a := 1) (b := -(at_ v k / at_ r k)) h2 fun i => ?_
    obtain ⟨z, hz⟩ := comb_cg (m := m) (a := 1) (b := -(at_ v k / at_ r k)) (h.len.trans R.len.symm) i
    refine ⟨z, ?_⟩
    show at_ (red m L (comb m 1 v (-(at_ v k / at_ r k)) r)) i - at_ v i - _ = _
    grind
/-- entries ahead of all leads stay -/
theorem red_keep (hm : 0 < m) : ∀ {L : Pv} {v : List Int}, (∀ k r, (k, r) ∈ L → Row m n k r) → Vec m n v → ∀ i, (∀ j s, (j, s) ∈ L → i < j) → at_ (red m L v) i = at_ v i
  | [], _, _, _, _, _ => rfl
  | (k, r) :: L, v, p, h, i, hi => by
    have R := p k r (by simp)
    have h1 := red_keep hm (L := L) (v := comb m 1 v (-(at_ v k / at_ r k)) r) (fun j s h => p j s (by simp [h])) (.comb hm h.len R.len) i (fun j s h => hi j s (by simp [h]))
    show at_ (red m L (comb m 1 v (-(at_ v k / at_ r k)) r)) i = _
    rw [h1, at_comb (h.len.trans R.len.symm), R.zer i (hi k r (by simp))]
    have := h.at hm i
    rw [Int.mul_zero, Int.add_zero, Int.one_mul]
    exact Int.emod_eq_of_lt this.1 this.2
theorem red_lt (hm : 0 < m) : ∀ {L : Pv} {v : List Int}, (∀ k r, (k, r) ∈ L → Row m n k r) → (L.map (·.1)).Pairwise (· < ·) → Vec m n v → ∀ k r, (k, r) ∈ L → at_ (red m L v) k < at_ r k
  | [], _, _, _, _, _, _, h => nomatch h
  | (k, r) :: L, v, p, hs, h, j, s, hj => by
    rw [List.map_cons, List.pairwise_cons] at hs
    have R := p k r (by simp)
    have V : Vec m n (comb m 1 v (-(at_ v k / at_ r k)) r) := .comb hm h.len R.len
    show at_ (red m L (comb m 1 v (-(at_ v k / at_ r k)) r)) j < at_ s j
    rcases List.mem_cons.mp hj with e | e
    · injection e with e1 e2
      subst e1; subst e2
      rw [red_keep hm (fun j s h => p j s (by simp [h])) V j fun i t h => hs.1 i (List.mem_map.mpr ⟨_, h, rfl⟩), at_comb (h.len.trans R.len.symm)]
      have e1 : 1 * at_ v j + -(at_ v j / at_ s j) * at_ s j = at_ v j % at_ s j := by
        have := Int.emod_add_mul_ediv (at_ v j) (at_ s j)
        grind
      rw [e1]
      have h1 := Int.emod_nonneg (at_ v j) (b := at_ s j) (by have := R.pos; omega)
      have h2 := Int.emod_lt_of_pos (at_ v j) R.pos
      have h3 := (R.toVec.at hm j).2
      rw [Int.emod_eq_of_lt h1 (by omega)]
      exact h2
    · exact red_lt hm (fun j s h => p j s (by simp [h])) hs.2 V j s e
end

/-! ### the table for some pivots -/
/-- what table_of has behind some of the leads, the greatest first: D the pivots taken, L the rows -/
structure TabOf (m : Int) (n : Nat) (D L : Pv) : Prop where
  keys : L.map (·.1) = D.map (·.1)
  srt : (D.map (·.1)).Pairwise (· < ·)
  row : ∀ k r, (k, r) ∈ L → Row m n k r
  fwd : ∀ k r, (k, r) ∈ D → In m (Hi m (Gen L) k) (at_ r)
  bwd : ∀ k r, (k, r) ∈ L → ∃ s, (k, s) ∈ D ∧ at_ s k = at_ r k ∧ In m (Hi m (Gen L) (k + 1)) (fun i => at_ r i - at_ s i)
theorem TabOf.nil (m : Int) (n : Nat) : TabOf m n [] [] := ⟨rfl, .nil, (fun _ _ h => nomatch h), (fun _ _ h => nomatch h), fun _ _ h => nomatch h⟩
theorem TabOf.step {m : Int} {n : Nat} {D L : Pv} (hm : 0 < m) (t : TabOf m n D L) {k : Nat} {r : List Int} (R : Row m n k r) (hk : ∀ j s, (j, s) ∈ D → k < j) : TabOf m n ((k, r) :: D) ((k, red m L r) :: L) := by
  have hkL : ∀ j s, (j, s) ∈ L → k < j := fun j s h => by
    have : j ∈ D.map (·.1) := t.keys ▸ List.mem_map.mpr ⟨_, h, rfl⟩
    obtain ⟨⟨j', s'⟩, h1, rfl⟩ := List.mem_map.mp this
    exact hk _ s' h1
  have V := red_vec hm t.row R.toVec
  have keep : ∀ i, i ≤ k → at_ (red m L r) i = at_ r i := fun i hi => red_keep hm t.row R.toVec i fun j s h => by have := hkL j s h; omega
  have R' : Row m n k (red m L r) := { V with lt := R.lt, pos := by rw [keep k (Nat.le_refl k)]; exact R.pos, zer := fun i hi => by rw [keep i (by omega)]; exact R.zer i hi, dvd := by rw [keep k (Nat.le_refl k)]; exact R.dvd }
  have hi1 : ∀ f, Gen L f → Hi m (Gen ((k, red m L r) :: L)) (k + 1) f := fun f ⟨j, s, h, e⟩ => ⟨gen_cons.mpr (.inr ⟨j, s, h, e⟩), fun i hi => by
    subst e
    rw [(t.row j s h).zer i (by have := hkL j s h; omega)]; exact Int.dvd_zero _⟩
  have din := (red_in hm t.row R.toVec).weak hi1
  refine ⟨by rw [List.map_cons, List.map_cons, t.keys], ?_, fun j s h => ?_, fun j s h => ?_, fun j s h => ?_⟩
  · rw [List.map_cons, List.pairwise_cons]
    refine ⟨fun j hj => ?_, t.srt⟩
    obtain ⟨⟨j', s'⟩, h1, rfl⟩ := List.mem_map.mp hj
    exact hk _ s' h1
  · rcases List.mem_cons.mp h with e | e
    · injection e with e1 e2; subst e1; subst e2; exact R'
    · exact t.row j s e
  · rcases List.mem_cons.mp h with e | e
    · injection e with e1 e2; subst e1; subst e2
      have h1 : In m (Hi m (Gen ((j, red m L s) :: L)) j) (at_ (red m L s)) := .gen ⟨gen_cons.mpr (.inl rfl), fun i hi => by rw [keep i (by omega), R.zer i hi]; exact Int.dvd_zero _⟩
      have h2 := din.weak fun g (hg : Hi m (Gen ((j, red m L s) :: L)) (j + 1) g) => (⟨hg.1, fun i hi => hg.2 i (by omega)⟩ : Hi m (Gen ((j, red m L s) :: L)) j g)
      exact h1.sub h2 fun i => ⟨0, by grind⟩
    · exact (t.fwd j s e).weak fun g hg => ⟨gen_cons.mpr (.inr hg.1), hg.2⟩
  · rcases List.mem_cons.mp h with e | e
    · injection e with e1 e2; subst e1; subst e2
      exact ⟨r, by simp, (keep j (Nat.le_refl j)).symm, din⟩
    · obtain ⟨u, h1, h2, h3⟩ := t.bwd j s e
      exact ⟨u, by simp [h1], h2, h3.weak fun g hg => ⟨gen_cons.mpr (.inr hg.1), hg.2⟩⟩
theorem TabOf.done {m : Int} {n : Nat} {G : F → Prop} {P D L : Pv} (hm : 0 < m) (t : TabOf m n D L) (x : Hw m n G P) (e : ∀ p, p ∈ D ↔ p ∈ P) : Tab m n L ∧ ∀ f, In m (Gen L) f ↔ In m G f := by
  have hP : ∀ k r, (k, r) ∈ P → In m (Hi m (Gen L) k) (at_ r) := fun k r h => t.fwd k r ((e _).mpr h)
  have s : Sub m (Gen P) (Gen L) := by
    rintro f ⟨k, r, h, rfl⟩ j hj
    have := x.piv.lead hm h hj
    exact (hP k r h).weak fun g hg => ⟨hg.1, fun i hi => hg.2 i (by omega)⟩
  have srt : (L.map (·.1)).Pairwise (· < ·) := t.keys ▸ t.srt
  have piv : Piv m n L := ⟨srt.imp fun h => Nat.ne_of_lt h, t.row⟩
  refine ⟨⟨piv, fun k r h => ?_, srt⟩, fun f => ?_⟩
  · obtain ⟨q, h1, h2, h3⟩ := t.bwd k r h
    have h4 := s.hi (k + 1) (x.how k q ((e _).mp h1))
    rw [h2] at h4
    exact h4.lin (a := 1) (b := m / at_ r k) h3 fun i => ⟨0, by grind⟩
  · rw [← x.iff f]
    constructor
    · intro h
      have key : ∀ (d : Nat) k r, n - k ≤ d → (k, r) ∈ L → In m (Gen P) (at_ r) := by
        intro d
        induction d with
        | zero => intro k r hd h; have := (t.row k r h).lt; omega
        | succ d ih =>
          intro k r hd h
          obtain ⟨q, h1, h2, h3⟩ := t.bwd k r h
          have h5 : In m (Gen P) (at_ q) := .gen ⟨k, q, (e _).mp h1, rfl⟩
          have h6 : In m (Gen P) (fun i => at_ r i - at_ q i) := h3.mono fun g hg => by
            obtain ⟨⟨j, u, hj, rfl⟩, hv⟩ := hg
            have hk := (t.row k r h).lt
            have h8 : k + 1 ≤ j := piv.lead hm hj hv
            exact ih j u (by omega) hj
          exact h5.add h6 fun i => ⟨0, by grind⟩
      exact h.mono fun g ⟨k, r, hk, e⟩ => e ▸ key (n - k) k r (Nat.le_refl _) hk
    · intro h
      exact s.all h

/-! ### all members of a coset -/
def enum (m : Int) : Pv → List Int → List (List Int)
  | [], b => [b]
  | (k, r) :: L, b => (List.range (m / at_ r k).toNat).flatMap fun t : Nat => enum m L (comb m 1 b (t : Int) r)
def sz (m : Int) (L : Pv) : Int := L.foldl (fun a p => a * (m / at_ p.2 p.1)) 1
theorem foldl_mul (m : Int) : ∀ (L : Pv) (a : Int), L.foldl (fun a p => a * (m / at_ p.2 p.1)) a = a * sz m L
  | [], a => by simp [sz]
  | p :: L, a => by
    show L.foldl _ (a * (m / at_ p.2 p.1)) = _
    rw [foldl_mul m L]
    show _ = a * L.foldl _ (1 * (m / at_ p.2 p.1))
    rw [foldl_mul m L, Int.one_mul, Int.mul_assoc]
theorem sz_cons (m : Int) (p : Nat × List Int) (L : Pv) : sz m (p :: L) = m / at_ p.2 p.1 * sz m L := by
  show L.foldl _ (1 * (m / at_ p.2 p.1)) = _
  rw [foldl_mul, Int.one_mul]
section
variable {m : Int} {n : Nat}
theorem enum_len (hm : 0 < m) : ∀ {L : Pv} (b : List Int), (∀ k r, (k, r) ∈ L → Row m n k r) → ((enum m L b).length : Int) = sz m L
  | [], _, _ => rfl
  | (k, r) :: L, b, p => by
    have R := p k r (by simp)
    have ih := fun b => enum_len hm (L := L) b fun j s h => p j s (by simp [h])
    rw [sz_cons]
    show (((List.range (m / at_ r k).toNat).flatMap fun t : Nat => enum m L (comb m 1 b (t : Int) r)).length : Int) = m / at_ r k * sz m L
    have key : ∀ l : List Nat, ((l.flatMap fun t : Nat => enum m L (comb m 1 b (t : Int) r)).length : Int) = l.length * sz m L := fun l => by
      induction l with
      | nil => simp
      | cons a l ihl =>
        rw [List.flatMap_cons, List.length_append, Int.natCast_add, ih, ihl, List.length_cons]
        grind
    rw [key, List.length_range, Int.toNat_of_nonneg (Int.ediv_nonneg (by omega) (by have := R.pos; omega))]
/-- a member's share of the first row -/
theorem in_cons {k : Nat} {r : List Int} {L : Pv} {f : F} (h : In m (Gen ((k, r) :: L)) f) : ∃ c, In m (Gen L) (fun i => f i - c * at_ r i) := by
  induction h with
  | zero z => exact ⟨0, .zero fun i => by
      obtain ⟨q, hq⟩ := z i
      exact ⟨q, by grind⟩⟩
  | step c hg hf hh ih =>
    obtain ⟨c0, h0⟩ := ih
    rcases gen_cons.mp hg with rfl | hg
    · refine ⟨c0 + c, h0.cg fun i => ?_⟩
      obtain ⟨q, hq⟩ := hh i
      exact ⟨q, by grind⟩
    · refine ⟨c0, .step c hg h0 fun i => ?_⟩
      obtain ⟨q, hq⟩ := hh i
      exact ⟨q, by grind⟩
theorem enum_mem (hm : 0 < m) : ∀ {L : Pv} {b : List Int}, Tab m n L → Vec m n b → ∀ x, x ∈ enum m L b ↔ Vec m n x ∧ In m (Gen L) (fun i => at_ x i - at_ b i)
  | [], b, _, hb, x => by
    show x ∈ [b] ↔ _
    rw [List.mem_singleton]
    constructor
    · rintro rfl
      exact ⟨hb, .zero fun i => by simp⟩
    · rintro ⟨hx, h⟩
      refine at_ext (hx.len.trans hb.len.symm) fun i _ => ?_
      have h1 : m ∣ at_ x i - at_ b i := h.all_dvd (Int.dvd_refl m) (i := i) fun g ⟨_, _, hg, _⟩ => nomatch hg
      have hx' := hx.at hm i
      have hb' := hb.at hm i
      have e1 := Int.emod_emod_of_dvd (at_ x i) (Int.dvd_refl m)
      have := Int.emod_eq_emod_iff_emod_sub_eq_zero.mpr (Int.emod_eq_zero_of_dvd h1)
      rwa [Int.emod_eq_of_lt hx'.1 hx'.2, Int.emod_eq_of_lt hb'.1 hb'.2] at this
  | (k, r) :: L, b, t, hb, x => by
    have R := t.piv.ok k r (by simp)
    have hlb : b.length = r.length := by rw [hb.len, R.len]
    show x ∈ (List.range (m / at_ r k).toNat).flatMap (fun t : Nat => enum m L (comb m 1 b (t : Int) r)) ↔ _
    rw [List.mem_flatMap]
    have V : ∀ t : Nat, Vec m n (comb m 1 b (t : Int) r) := fun t => .comb hm hb.len R.len
    constructor
    · rintro ⟨a, _, hx⟩
      obtain ⟨h1, h2⟩ := (enum_mem hm (t.tail hm) (V a) x).mp hx
      refine ⟨h1, ?_⟩
      have h3 : In m (Gen ((k, r) :: L)) (at_ r) := .gen (gen_cons.mpr (.inl rfl))
      refine (h2.weak fun g hg => gen_cons.mpr (.inr hg)).lin (a := 1) (b := (a : Int)) h3 fun i => ?_
      obtain ⟨z, hz⟩ := comb_cg (m := m) (a := 1) (b := (a : Int)) hlb i
      exact ⟨z, by grind⟩
    · rintro ⟨h1, h2⟩
      obtain ⟨c, hc⟩ := in_cons h2
      have hp := R.pos
      obtain ⟨d, hd⟩ := R.dvd
      have hd0 : 0 < d := pos_fac hp (hd ▸ hm)
      have hmd : m / at_ r k = d := by rw [hd, Int.mul_ediv_cancel_left _ (by omega)]
      have hc1 := Int.emod_nonneg c (b := d) (by omega)
      have hc2 := Int.emod_lt_of_pos c hd0
      have hc3 := Int.emod_add_mul_ediv c d
      refine ⟨(c % d).toNat, List.mem_range.mpr (by rw [hmd]; omega), (enum_mem hm (t.tail hm) (V _) x).mpr ⟨h1, ?_⟩⟩
      have ht : In m (Gen L) (fun i => m / at_ r k * at_ r i) := (t.how k r (by simp)).weak fun g hg => (t.hi hm (Nat.lt_succ_self k) hg).1
      rw [hmd] at ht
      refine hc.lin (a := 1) (b := c / d) ht fun i => ?_
      obtain ⟨z, hz⟩ := comb_cg (m := m) (a := 1) (b := ((c % d).toNat : Int)) hlb i
      rw [Int.toNat_of_nonneg hc1] at hz ⊢
      refine ⟨-z, ?_⟩
      have e1 : at_ (comb m 1 b (c % d) r) i = m * z + (1 * at_ b i + c % d * at_ r i) := by omega
      rw [e1]
      have e2 : c % d = c - d * (c / d) := by omega
      rw [e2]
      grind
theorem enum_nodup (hm : 0 < m) : ∀ {L : Pv} {b : List Int}, Tab m n L → Vec m n b → (enum m L b).Nodup
  | [], b, _, _ => by simp [enum]
  | (k, r) :: L, b, t, hb => by
    have R := t.piv.ok k r (by simp)
    have hlb : b.length = r.length := by rw [hb.len, R.len]
    have V : ∀ t : Nat, Vec m n (comb m 1 b (t : Int) r) := fun t => .comb hm hb.len R.len
    show ((List.range (m / at_ r k).toNat).flatMap fun t : Nat => enum m L (comb m 1 b (t : Int) r)).Nodup
    unfold List.Nodup
    rw [List.pairwise_flatMap]
    refine ⟨fun a _ => enum_nodup hm (t.tail hm) (V a), ?_⟩
    have hp := R.pos
    obtain ⟨d, hd⟩ := R.dvd
    have hd0 : 0 < d := pos_fac hp (hd ▸ hm)
    have hmd : m / at_ r k = d := by rw [hd, Int.mul_ediv_cancel_left _ (by omega)]
    have entry : ∀ a x, x ∈ enum m L (comb m 1 b (a : Nat) r) → m ∣ at_ x k - (at_ b k + a * at_ r k) := fun a x hx => by
      have h1 := ((enum_mem hm (t.tail hm) (V a) x).mp hx).2
      have h2 : m ∣ at_ x k - at_ (comb m 1 b (a : Nat) r) k := h1.all_dvd (Int.dvd_refl m) (i := k) fun g ⟨j, s, hj, e⟩ => by
        rw [e, ((t.tail hm).piv.ok j s hj).zer k (t.lt hj)]; exact Int.dvd_zero _
      obtain ⟨z, hz⟩ := comb_cg (m := m) (a := 1) (b := (a : Int)) hlb k
      obtain ⟨z2, hz2⟩ := h2
      exact ⟨z + z2, by grind⟩
    have pr : (List.range (m / at_ r k).toNat).Pairwise fun a c => a < c ∧ c < (m / at_ r k).toNat := by
      rw [List.pairwise_iff_getElem]
      intro i j hi hj hij
      rw [List.getElem_range, List.getElem_range]
      rw [List.length_range] at hj
      exact ⟨hij, hj⟩
    refine pr.imp fun {a c} h x hx y hy e => ?_
    subst e
    obtain ⟨z1, h1⟩ := entry a x hx
    obtain ⟨z2, h2⟩ := entry c x hy
    rw [hmd] at h
    have h3 : ((c : Int) - a) * at_ r k = m * (z1 - z2) := by grind
    rw [hd] at h3
    have h4 : at_ r k * (((c : Int) - a) - d * (z1 - z2)) = 0 := by grind
    rcases Int.mul_eq_zero.mp h4 with h5 | h5
    · omega
    · have h6 : ((c : Int) - a) = d * (z1 - z2) := by omega
      have h7 : d ∣ (c : Int) - a := ⟨_, h6⟩
      have := Int.le_of_dvd (by omega) h7
      omega
end
end WM
end
section
namespace WM
section
variable {m : Int} {n : Nat} {L : Pv}
theorem Tab.zero_of (hm : 0 < m) (t : Tab m n L) {y : List Int} (hy : Vec m n y) (h : In m (Gen L) (at_ y)) (hl : ∀ k r, (k, r) ∈ L → at_ y k < at_ r k) : ∀ i, at_ y i = 0 := by
  intro i
  induction i using Nat.strongRecOn with
  | _ i ih =>
    have hz : ∀ j, j < i → m ∣ at_ y j := fun j hj => by rw [ih j hj]; exact Int.dvd_zero _
    have hy' := hy.at hm i
    obtain ⟨h1, h2⟩ := howell_lead (k := i) t.piv hm t.how h hz
    by_cases e : ∃ r, (i, r) ∈ L
    · obtain ⟨r, hr⟩ := e
      exact small_dvd ⟨hy'.1, hl i r hr⟩ (h1 r hr)
    · exact small_dvd hy' (h2 fun r hr => e ⟨r, hr⟩)
/-- two reduced vectors of one coset are one -/
theorem Tab.red_mem (hm : 0 < m) (t : Tab m n L) {v : List Int} (hv : Vec m n v) : (∀ i, at_ (red m L v) i = 0) ↔ In m (Gen L) (at_ v) := by
  have h1 := red_in hm t.piv.ok hv
  have V := red_vec hm t.piv.ok hv
  constructor
  · intro h
    have : In m (Gen L) (at_ (red m L v)) := .zero fun i => by rw [h i]; exact Int.dvd_zero _
    exact this.sub h1 fun i => ⟨0, by grind⟩
  · intro h
    have : In m (Gen L) (at_ (red m L v)) := h.add h1 fun i => ⟨0, by grind⟩
    exact t.zero_of hm V this fun k r hk => red_lt hm t.piv.ok t.srt hv k r hk

/-! ### cosets: a reduced base and a table -/
structure Cos (m : Int) (n : Nat) (L : Pv) (b : List Int) : Prop where
  tab : Tab m n L
  vec : Vec m n b
  low : ∀ k r, (k, r) ∈ L → at_ b k < at_ r k
def Mem (m : Int) (n : Nat) (L : Pv) (b : List Int) (x : List Int) : Prop := Vec m n x ∧ In m (Gen L) (fun i => at_ x i - at_ b i)
theorem Cos.of (hm : 0 < m) (t : Tab m n L) {v : List Int} (hv : Vec m n v) : Cos m n L (red m L v) := ⟨t, red_vec hm t.piv.ok hv, red_lt hm t.piv.ok t.srt hv⟩
theorem mem_red (hm : 0 < m) (t : Tab m n L) {v : List Int} (hv : Vec m n v) (x : List Int) : Mem m n L (red m L v) x ↔ Mem m n L v x := by
  have h1 := red_in hm t.piv.ok hv
  constructor
  · rintro ⟨a, b⟩; exact ⟨a, b.add h1 fun i => ⟨0, by grind⟩⟩
  · rintro ⟨a, b⟩; exact ⟨a, b.sub h1 fun i => ⟨0, by grind⟩⟩
theorem Cos.base {b : List Int} (c : Cos m n L b) : Mem m n L b b := ⟨c.vec, .zero fun i => by simp⟩
/-- entry by entry, the first that differs -/
def Lex (u v : List Int) : Prop := ∃ k, (∀ i, i < k → at_ u i = at_ v i) ∧ at_ u k < at_ v k
theorem Cos.least (hm : 0 < m) {b : List Int} (c : Cos m n L b) {x : List Int} (hx : Mem m n L b x) : x = b ∨ Lex b x := by
  by_cases e : ∃ k, at_ x k ≠ at_ b k
  · right
    -- the first place
    have : ∃ k, (∀ i, i < k → at_ b i = at_ x i) ∧ at_ x k ≠ at_ b k := by
      obtain ⟨k, hk⟩ := e
      induction k using Nat.strongRecOn with
      | _ k ih =>
        by_cases h : ∃ j, j < k ∧ at_ x j ≠ at_ b j
        · obtain ⟨j, hj, h2⟩ := h; exact ih j hj h2
        · exact ⟨k, fun i hi => by
            apply Classical.byContradiction
            intro h3; exact h ⟨i, hi, fun e => h3 e.symm⟩, hk⟩
    obtain ⟨k, h1, h2⟩ := this
    refine ⟨k, h1, ?_⟩
    have hz : ∀ j, j < k → m ∣ (fun i => at_ x i - at_ b i) j := fun j hj => by
      show m ∣ at_ x j - at_ b j
      rw [h1 j hj]; simp
    obtain ⟨g1, g2⟩ := howell_lead (k := k) c.tab.piv hm c.tab.how hx.2 hz
    have hx' := hx.1.at hm k
    have hb' := c.vec.at hm k
    by_cases er : ∃ r, (k, r) ∈ L
    · obtain ⟨r, hr⟩ := er
      have d := g1 r hr
      have hl := c.low k r hr
      have R := c.tab.piv.ok k r hr
      apply Classical.byContradiction
      intro hn
      have h3 : at_ x k < at_ b k := by omega
      have d2 : at_ r k ∣ at_ b k - at_ x k := by
        obtain ⟨z, hz⟩ := d
        refine ⟨-z, ?_⟩
        have hz' : at_ x k - at_ b k = at_ r k * z := hz
        rw [Int.mul_neg, ← hz']; omega
      have := Int.le_of_dvd (by omega) d2
      omega
    · have d : m ∣ at_ x k - at_ b k := g2 fun r hr => er ⟨r, hr⟩
      exfalso
      have e1 := Int.emod_eq_emod_iff_emod_sub_eq_zero.mpr (Int.emod_eq_zero_of_dvd d)
      rw [Int.emod_eq_of_lt hx'.1 hx'.2, Int.emod_eq_of_lt hb'.1 hb'.2] at e1
      exact h2 e1
  · left
    refine at_ext (hx.1.len.trans c.vec.len.symm) fun i _ => ?_
    apply Classical.byContradiction
    intro h; exact e ⟨i, h⟩
theorem Lex.asymm {u v : List Int} (h : Lex u v) (h' : Lex v u) : False := by
  obtain ⟨k, h1, h2⟩ := h
  obtain ⟨j, h3, h4⟩ := h'
  rcases Nat.lt_trichotomy k j with e | e | e
  · have := h3 k e; omega
  · subst e; omega
  · have := h1 j e; omega

/-! ### the rest of a span after a reading -/
def cons_ (a : Int) (f : F) : F
  | 0 => a
  | i + 1 => f i
theorem span_restr (hm : 0 < m) {d : Int} (hd : d ∣ m) (hd0 : 0 < d) {w : List Int} (t : Piv m n L) {L1 L2 : Pv}
    (h1 : Hw m (n + 1) (fun f => ∃ k r, (k, r) ∈ L ∧ f = at_ ((dot w (at_ r) % m * (m / d) % m) :: r)) L1)
    (h2 : ∀ f, In m (Gen L2) f ↔ In m (fun f => ∃ k r, (k, r) ∈ L1 ∧ 0 < k ∧ f = at_ r.tail) f) (f : F) :
    In m (Gen L2) f ↔ In m (Gen L) f ∧ d ∣ dot w f := by
  obtain ⟨e, he⟩ := hd
  have hmd : m / d = e := by rw [he, Int.mul_ediv_cancel_left _ (by omega)]
  have he0 : 0 < e := pos_fac hd0 (he ▸ hm)
  have mark : ∀ r : List Int, m ∣ at_ ((dot w (at_ r) % m * (m / d) % m) :: r) 0 - e * dot w (at_ r) := fun r => by
    rw [at_zero, hmd]
    obtain ⟨z1, h1⟩ := emod_cg m (dot w (at_ r))
    obtain ⟨z2, h2⟩ := emod_cg m (dot w (at_ r) % m * e)
    exact ⟨z2 + e * z1, by grind⟩
  rw [h2]
  constructor
  · intro h
    have key : ∀ h : F, In m (fun f => ∃ k r, (k, r) ∈ L ∧ f = at_ ((dot w (at_ r) % m * (m / d) % m) :: r)) h → In m (Gen L) (fun i => h (i + 1)) ∧ m ∣ h 0 - e * dot w (fun i => h (i + 1)) := by
      intro h x
      induction x with
      | zero z =>
        refine ⟨.zero fun i => z (i + 1), ?_⟩
        obtain ⟨z1, h1⟩ := z 0
        obtain ⟨z2, h2⟩ := dot_dvd w (m := m) (f := fun i => _) fun i => z (i + 1)
        exact ⟨z1 - e * z2, by grind⟩
      | step c hg hf hh ih =>
        rename_i f1 g1 h1
        obtain ⟨k, r, hr, rfl⟩ := hg
        have er : (fun i => at_ ((dot w (at_ r) % m * (m / d) % m) :: r) (i + 1)) = at_ r := by funext i; exact at_succ ..
        refine ⟨.step c ⟨k, r, hr, rfl⟩ ih.1 fun i => ?_, ?_⟩
        · have := hh (i + 1)
          rwa [at_succ] at this
        · obtain ⟨z1, q1⟩ := hh 0
          obtain ⟨z2, q2⟩ := mark r
          obtain ⟨z3, q3⟩ := ih.2
          have := dot_cg (m := m) w (f := fun i => h1 (i + 1)) (g := fun i => f1 (i + 1) + c * at_ r i) fun i => by
            have := hh (i + 1)
            rwa [at_succ] at this
          obtain ⟨z4, q4⟩ := this
          have q5 := dot_lin 1 c w (fun i => f1 (i + 1)) (at_ r)
          have e5 : (fun i => 1 * f1 (i + 1) + c * at_ r i) = fun i => f1 (i + 1) + c * at_ r i := by funext i; grind
          rw [e5] at q5
          rw [q5] at q4
          exact ⟨z1 + c * z2 + z3 - e * z4, by grind⟩
    have key2 : ∀ k r, (k, r) ∈ L1 → 0 < k → In m (Gen L) (at_ r.tail) ∧ d ∣ dot w (at_ r.tail) := by
      intro k r hr hk
      have R := h1.piv.ok k r hr
      have q := key _ (h1.bwd _ ⟨k, r, hr, rfl⟩)
      have et : (fun i => at_ r (i + 1)) = at_ r.tail := by
        funext i
        cases r with
        | nil => rfl
        | cons a r => exact at_succ ..
      rw [et] at q
      refine ⟨q.1, ?_⟩
      obtain ⟨z, hz⟩ := q.2
      rw [R.zer 0 hk, he] at hz
      refine ⟨-z, ?_⟩
      have : e * (dot w (at_ r.tail) - d * -z) = 0 := by grind
      rcases Int.mul_eq_zero.mp this with h | h <;> omega
    refine ⟨h.mono fun g ⟨k, r, hr, hk, eg⟩ => eg ▸ (key2 k r hr hk).1, h.dot_dvd ⟨e, he⟩ w fun g ⟨k, r, hr, hk, eg⟩ => eg ▸ (key2 k r hr hk).2⟩
  · rintro ⟨h, hdv⟩
    have key : ∀ f : F, In m (Gen L) f → In m (fun f => ∃ k r, (k, r) ∈ L ∧ f = at_ ((dot w (at_ r) % m * (m / d) % m) :: r)) (cons_ (e * dot w f) f) := by
      intro f x
      induction x with
      | zero z =>
        refine .zero fun i => ?_
        cases i with
        | zero => exact Int.dvd_mul_of_dvd_right (dot_dvd w z)
        | succ i => exact z i
      | step c hg hf hh ih =>
        rename_i f1 g1 h1
        obtain ⟨k, r, hr, rfl⟩ := hg
        refine .step c ⟨k, r, hr, rfl⟩ ih fun i => ?_
        cases i with
        | zero =>
          obtain ⟨z2, q2⟩ := mark r
          obtain ⟨z4, q4⟩ := dot_cg (m := m) w hh
          have q5 := dot_lin 1 c w f1 (at_ r)
          have e5 : (fun i => 1 * f1 i + c * at_ r i) = fun i => f1 i + c * at_ r i := by funext i; grind
          rw [e5] at q5
          rw [q5] at q4
          show m ∣ e * dot w h1 - (e * dot w f1 + c * at_ ((dot w (at_ r) % m * (m / d) % m) :: r) 0)
          exact ⟨e * z4 - c * z2, by grind⟩
        | succ i =>
          show m ∣ h1 i - (f1 i + c * at_ ((dot w (at_ r) % m * (m / d) % m) :: r) (i + 1))
          rw [at_succ]
          exact hh i
    have q := (key f h).mono h1.fwd
    have q2 := howell h1.piv hm h1.how q 1 fun i hi => by
      have : i = 0 := by omega
      subst this
      obtain ⟨z, hz⟩ := hdv
      exact ⟨z, by show e * dot w f = m * z; rw [hz, he]; grind⟩
    have tl : ∀ h : F, In m (Hi m (Gen L1) 1) h → In m (fun f => ∃ k r, (k, r) ∈ L1 ∧ 0 < k ∧ f = at_ r.tail) (fun i => h (i + 1)) := by
      intro h x
      induction x with
      | zero z => exact .zero fun i => z (i + 1)
      | step c hg hf hh ih =>
        obtain ⟨⟨k, r, hr, rfl⟩, hv⟩ := hg
        have hk := h1.piv.lead hm hr hv
        have et : ∀ i, at_ r (i + 1) = at_ r.tail i := fun i => by
          cases r with
          | nil => rfl
          | cons a r => exact at_succ ..
        refine .step c ⟨k, r, hr, hk, rfl⟩ ih fun i => ?_
        rw [← et i]
        exact hh (i + 1)
    exact tl _ q2

/-! ### what is known of a sum -/
/-- the greatest common divisor of m and the values -/
def gcdL (m : Int) (vs : List Int) : Int := vs.foldl (fun g v => (Int.gcd v g : Int)) m
theorem gcdL_spec : ∀ (vs : List Int) (m : Int), 0 < m → 0 < gcdL m vs ∧ gcdL m vs ∣ m ∧ (∀ v ∈ vs, gcdL m vs ∣ v) ∧ ∀ e, e ∣ m → (∀ v ∈ vs, e ∣ v) → e ∣ gcdL m vs
  | [], m, hm => ⟨hm, Int.dvd_refl _, (fun _ h => nomatch h), fun _ h _ => h⟩
  | v :: vs, m, hm => by
    have g0 : (0 : Int) < (Int.gcd v m : Int) := by
      have := Int.gcd_pos_of_ne_zero_right v (b := m) (by omega)
      omega
    obtain ⟨h1, h2, h3, h4⟩ := gcdL_spec vs (Int.gcd v m : Int) g0
    refine ⟨h1, Int.dvd_trans h2 (Int.gcd_dvd_right ..), fun u hu => ?_, fun e he hv => h4 e (Int.dvd_coe_gcd (hv v (by simp)) he) fun u hu => hv u (by simp [hu])⟩
    rcases List.mem_cons.mp hu with rfl | hu
    · exact Int.dvd_trans h2 (Int.gcd_dvd_left ..)
    · exact h3 u hu
theorem gcd_uniq {a b : Int} (ha : 0 < a) (hb : 0 < b) (h1 : a ∣ b) (h2 : b ∣ a) : a = b := Int.dvd_antisymm (by omega) (by omega) h1 h2
/-- the divisor modulo which a sum is known over a span -/
def known (m : Int) (L : Pv) (w : List Int) : Int := gcdL m (L.map fun p => dot w (at_ p.2) % m)
theorem known_spec (hm : 0 < m) (w : List Int) : 0 < known m L w ∧ known m L w ∣ m ∧ (∀ f, In m (Gen L) f → known m L w ∣ dot w f) ∧ ∀ e, e ∣ m → (∀ f, In m (Gen L) f → e ∣ dot w f) → e ∣ known m L w := by
  obtain ⟨h1, h2, h3, h4⟩ := gcdL_spec (L.map fun p => dot w (at_ p.2) % m) m hm
  refine ⟨h1, h2, fun f hf => hf.dot_dvd h2 w ?_, fun e he hf => h4 e he ?_⟩
  · rintro g ⟨k, r, hr, e⟩
    have := h3 (dot w (at_ r) % m) (List.mem_map.mpr ⟨(k, r), hr, rfl⟩)
    rw [e]
    have h5 := Int.dvd_trans h2 (emod_cg m (dot w (at_ r)))
    obtain ⟨a, ha⟩ := this
    obtain ⟨b, hb⟩ := h5
    exact ⟨a - b, by show dot w (at_ r) = gcdL m (L.map fun p => dot w (at_ p.2) % m) * (a - b); rw [Int.mul_sub, ← ha, ← hb]; omega⟩
  · intro v hv
    obtain ⟨⟨k, r⟩, hr, rfl⟩ := List.mem_map.mp hv
    have h5 := hf (at_ r) (.gen ⟨k, r, hr, rfl⟩)
    have h6 := Int.dvd_trans he (emod_cg m (dot w (at_ r)))
    exact dvd_of_sub h6 h5
end
end WM
end
section
set_option linter.unusedVariables false
namespace WM
section
variable {m : Int} {n : Nat} {L : Pv}
/-! ### the rest of a coset after a reading -/
theorem cos_some {L' : Pv} {b v w : List Int} {d p : Int} (hd : d ∣ m) (h' : ∀ f, In m (Gen L') f ↔ In m (Gen L) f ∧ d ∣ dot w f) (hv : In m (Gen L) (fun i => at_ v i - at_ b i)) (hp : d ∣ dot w (at_ v) - p) (x : List Int) :
    Mem m n L' v x ↔ Mem m n L b x ∧ d ∣ dot w (at_ x) - p := by
  unfold Mem
  rw [h', dot_sub]
  constructor
  · rintro ⟨h1, h2, h3⟩
    refine ⟨⟨h1, h2.add hv fun i => ⟨0, by grind⟩⟩, ?_⟩
    obtain ⟨a, ha⟩ := h3
    obtain ⟨c, hc⟩ := hp
    exact ⟨a + c, by grind⟩
  · rintro ⟨⟨h1, h2⟩, h3⟩
    refine ⟨h1, h2.sub hv fun i => ⟨0, by grind⟩, ?_⟩
    obtain ⟨a, ha⟩ := h3
    obtain ⟨c, hc⟩ := hp
    exact ⟨a - c, by grind⟩
theorem cos_none (hm : 0 < m) {b w : List Int} {d p g : Int} (hd : d ∣ m) (hg : ∀ f, In m (Gen L) f → g ∣ dot w f) {c : Int} (hc1 : c ∣ g) (hc2 : c ∣ d) (hn : ¬ c ∣ p - dot w (at_ b) % m % g) {x : List Int} (hx : Mem m n L b x) : ¬ d ∣ dot w (at_ x) - p := by
  intro h
  apply hn
  have h1 := hg _ hx.2
  rw [dot_sub] at h1
  obtain ⟨a1, e1⟩ := Int.dvd_trans hc1 h1
  obtain ⟨a2, e2⟩ := Int.dvd_trans hc2 h
  obtain ⟨a3, e3⟩ := Int.dvd_trans (Int.dvd_trans hc2 hd) (emod_cg m (dot w (at_ b)))
  obtain ⟨a4, e4⟩ := Int.dvd_trans hc1 (emod_cg g (dot w (at_ b) % m))
  exact ⟨a1 - a2 - a3 - a4, by grind⟩
/-- how often the step is taken -/
theorem times_ok {d g c p B rest inv : Int} (hc : c = (Int.gcd g d : Int)) (hc0 : 0 < c) (hr : rest = d / c) (hmis : c ∣ p - B) (hi : rest ∣ inv * (g / c) - 1) : d ∣ B + (p - B) / c * inv * g - p := by
  have hcg : c ∣ g := hc ▸ Int.gcd_dvd_left ..
  have hcd : c ∣ d := hc ▸ Int.gcd_dvd_right ..
  obtain ⟨g', hg⟩ := hcg
  obtain ⟨d', hd⟩ := hcd
  obtain ⟨q, hq⟩ := hmis
  have e1 : g / c = g' := by rw [hg, Int.mul_ediv_cancel_left _ (by omega)]
  have e2 : rest = d' := by rw [hr, hd, Int.mul_ediv_cancel_left _ (by omega)]
  have e3 : (p - B) / c = q := by rw [hq, Int.mul_ediv_cancel_left _ (by omega)]
  rw [e1, e2] at hi
  obtain ⟨z, hz⟩ := hi
  refine ⟨q * z, ?_⟩
  rw [e3, hg, hd]
  have e4 : inv * g' = d' * z + 1 := by omega
  have e5 : q * inv * (c * g') = q * c * (inv * g') := by grind
  rw [e5, e4]
  grind
theorem mod_dvd {a p d : Int} (hd : 0 < d) (hp : 0 ≤ p ∧ p < d) : d ∣ a - p ↔ a % d = p := by
  constructor
  · intro h
    have e := Int.emod_eq_emod_iff_emod_sub_eq_zero.mpr (Int.emod_eq_zero_of_dvd h)
    rwa [Int.emod_eq_of_lt hp.1 hp.2] at e
  · intro h
    have := emod_cg d a
    obtain ⟨z, hz⟩ := this
    exact ⟨-z, by grind⟩
end

/-! ### windows, plans and how they are played -/
structure Win (N : Type) where
  name : N
  src : Nat
  tgt : Nat
  fac : Int
  pane : Int
  moves : List (Option Nat)
inductive Plan (N : Type) where
  | none
  | look (nm : N) (subs : List (Plan N))
section
variable {N : Type} {m : Int} {n : Nat}
def moved (m : Int) (w : Win N) (y : List Int) : List Int := y.set w.tgt ((at_ y w.tgt + w.fac * at_ y w.src) % m)
/-- the window of a name -/
def Named (ws : List (Win N)) (nm : N) (w : Win N) : Prop := w ∈ ws ∧ w.name = nm ∧ ∀ u ∈ ws, u.name = nm → u = w
structure WinOk (m : Int) (n : Nat) (stops : Nat) (w : Win N) : Prop where
  src : w.src < n
  tgt : w.tgt < n
  ne : w.src ≠ w.tgt
  fac : 0 ≤ w.fac ∧ w.fac < m
  pane : 0 < w.pane ∧ w.pane ≤ m
  dvd : w.pane ∣ m
  len : w.moves.length = stops
  rng : ∀ k, some k ∈ w.moves → k < stops
inductive Plays (ws : List (Win N)) (m : Int) : Plan N → Nat → List Int → List Int → List (Win N) → Prop
  | none {mk x} : Plays ws m .none mk x [] []
  | look {nm subs mk x w mk' sub rds wk} : Named ws nm w → w.moves[mk]? = some (some mk') → subs[(at_ x w.src % w.pane).toNat]? = some sub → Plays ws m sub mk' (moved m w x) rds wk →
      Plays ws m (.look nm subs) mk x (at_ x w.src % w.pane :: rds) (w :: wk)
/-- a plan that can be followed from a mark, of at most k looks -/
inductive PlanOk (ws : List (Win N)) : Plan N → Nat → Nat → Prop
  | none {mk k} : PlanOk ws .none mk k
  | look {nm subs mk w mk' k} : Named ws nm w → w.moves[mk]? = some (some mk') → (subs.length : Int) = w.pane → (∀ s ∈ subs, PlanOk ws s mk' k) → PlanOk ws (.look nm subs) mk (k + 1)
theorem Named.inj {ws : List (Win N)} {nm : N} {w u : Win N} (h : Named ws nm w) (h' : Named ws nm u) : w = u := (h.2.2 u h'.1 h'.2.1).symm
theorem Plays.inj {ws : List (Win N)} {p : Plan N} {mk : Nat} {x r1 : List Int} {k1 : List (Win N)} (h : Plays ws m p mk x r1 k1) : ∀ {r2 k2}, Plays ws m p mk x r2 k2 → r1 = r2 ∧ k1 = k2 := by
  induction h with
  | none => intro r2 k2 h; cases h; exact ⟨rfl, rfl⟩
  | look h1 h2 h3 h4 ih =>
    intro r2 k2 h
    cases h with
    | look g1 g2 g3 g4 =>
      cases h1.inj g1
      rw [h2] at g2
      cases g2
      rw [h3] at g3
      cases g3
      obtain ⟨e1, e2⟩ := ih g4
      rw [e1, e2]
      exact ⟨rfl, rfl⟩
/-- the walk is told by the readings -/
theorem Plays.walk {ws : List (Win N)} {p : Plan N} {mk : Nat} {x r : List Int} {k1 : List (Win N)} (h : Plays ws m p mk x r k1) : ∀ {y k2}, Plays ws m p mk y r k2 → k1 = k2 := by
  induction h with
  | none => intro y k2 h; cases h; rfl
  | look h1 h2 h3 h4 ih =>
    intro y k2 h
    rename_i rds _
    generalize hr : (_ :: rds : List Int) = r at h
    cases h with
    | look g1 g2 g3 g4 =>
      cases h1.inj g1
      rw [h2] at g2
      cases g2
      injection hr with e1 e2
      rw [← e1, h3] at g3
      cases g3
      subst e2
      rw [ih g4]
theorem set_len {y : List Int} {i : Nat} {a : Int} : (y.set i a).length = y.length := List.length_set ..
theorem at_set {y : List Int} {i : Nat} {a : Int} (hi : i < y.length) (j : Nat) : at_ (y.set i a) j = if j = i then a else at_ y j := by
  unfold at_
  rw [List.getD_eq_getElem?_getD, List.getD_eq_getElem?_getD, List.getElem?_set]
  by_cases e : i = j
  · subst e; simp [hi]
  · rw [if_neg e, if_neg (fun h => e h.symm)]
theorem moved_len {w : Win N} {y : List Int} : (moved m w y).length = y.length := set_len
theorem moved_vec (hm : 0 < m) {w : Win N} {y : List Int} (hy : Vec m n y) : Vec m n (moved m w y) := by
  refine ⟨moved_len.trans hy.len, fun x hx => ?_⟩
  unfold moved at hx
  rcases List.mem_or_eq_of_mem_set hx with h | rfl
  · exact hy.rng x h
  · exact ⟨Int.emod_nonneg _ (by omega), Int.emod_lt_of_pos _ hm⟩
theorem at_moved {w : Win N} {y : List Int} (hw : w.tgt < y.length) (j : Nat) : at_ (moved m w y) j = if j = w.tgt then (at_ y w.tgt + w.fac * at_ y w.src) % m else at_ y j := at_set hw j
theorem plays_ex (hm : 0 < m) {ws : List (Win N)} {stops : Nat} (hw : ∀ w ∈ ws, WinOk m n stops w) {p : Plan N} {mk k : Nat} (h : PlanOk ws p mk k) : ∀ {x : List Int}, Vec m n x → ∃ r wk, Plays ws m p mk x r wk := by
  induction h with
  | none => exact fun _ => ⟨_, _, .none⟩
  | look h1 h2 h3 h4 ih =>
    rename_i nm subs mk w mk' k
    intro x hx
    have W := hw w h1.1
    have e1 := Int.emod_nonneg (at_ x w.src) (b := w.pane) (by have := W.pane; omega)
    have e2 := Int.emod_lt_of_pos (at_ x w.src) W.pane.1
    have hl : (at_ x w.src % w.pane).toNat < subs.length := by omega
    obtain ⟨r, wk, h⟩ := ih _ (List.getElem_mem hl) (moved_vec hm hx (w := w))
    exact ⟨_, _, .look h1 h2 (List.getElem?_eq_getElem hl) h⟩

/-! ### the differences that a walk leaves -/
def ZW (m : Int) : List (Win N) → List Int → Prop
  | [], _ => True
  | w :: wk, y => at_ y w.src % w.pane = 0 ∧ ZW m wk (moved m w y)
theorem add_mod_iff {a b p : Int} (hp : 0 < p) : (a + b) % p = a % p ↔ b % p = 0 := by
  constructor
  · intro h
    have := Int.emod_eq_emod_iff_emod_sub_eq_zero.mp h
    have e : a + b - a = b := by omega
    rwa [e] at this
  · intro h
    apply Int.emod_eq_emod_iff_emod_sub_eq_zero.mpr
    have e : a + b - a = b := by omega
    rwa [e]
theorem moved_add (hm : 0 < m) {w : Win N} {x f : List Int} (hx : Vec m n x) (hf : Vec m n f) (hw : w.tgt < n) : moved m w (comb m 1 x 1 f) = comb m 1 (moved m w x) 1 (moved m w f) := by
  have hl : x.length = f.length := hx.len.trans hf.len.symm
  have hc : (comb m 1 x 1 f).length = n := by rw [comb_len hl, hx.len]
  have hml : (moved m w x).length = (moved m w f).length := by rw [moved_len, moved_len, hl]
  refine at_ext (by rw [moved_len, hc, comb_len hml, moved_len, hx.len]) fun i _ => ?_
  rw [at_moved (by rw [hc]; exact hw), at_comb hml, at_moved (by rw [hx.len]; exact hw), at_moved (by rw [hf.len]; exact hw), at_comb hl, at_comb hl, at_comb hl]
  by_cases e : i = w.tgt
  · simp only [if_pos e]
    rw [Int.one_mul, Int.one_mul, Int.one_mul, Int.one_mul, Int.one_mul, Int.one_mul]
    apply Int.emod_eq_emod_iff_emod_sub_eq_zero.mpr
    apply Int.emod_eq_zero_of_dvd
    obtain ⟨a1, h1⟩ := emod_cg m (at_ x w.tgt + at_ f w.tgt)
    obtain ⟨a2, h2⟩ := emod_cg m (at_ x w.src + at_ f w.src)
    obtain ⟨a3, h3⟩ := emod_cg m (at_ x w.tgt + w.fac * at_ x w.src)
    obtain ⟨a4, h4⟩ := emod_cg m (at_ f w.tgt + w.fac * at_ f w.src)
    exact ⟨a1 + w.fac * a2 - a3 - a4, by grind⟩
  · simp only [if_neg e]
theorem plays_zw (hm : 0 < m) {ws : List (Win N)} {stops : Nat} (hw : ∀ w ∈ ws, WinOk m n stops w) {p : Plan N} {mk : Nat} {x r : List Int} {wk : List (Win N)} (h : Plays ws m p mk x r wk) :
    ∀ {f : List Int}, Vec m n x → Vec m n f → ((∃ wk', Plays ws m p mk (comb m 1 x 1 f) r wk') ↔ ZW m wk f) := by
  induction h with
  | none => exact fun _ _ => ⟨fun _ => trivial, fun _ => ⟨_, .none⟩⟩
  | look h1 h2 h3 h4 ih =>
    rename_i nm subs mk x w mk' sub rds wk
    intro f hx hf
    have W := hw w h1.1
    have hl : x.length = f.length := hx.len.trans hf.len.symm
    have er : at_ (comb m 1 x 1 f) w.src % w.pane = (at_ x w.src + at_ f w.src) % w.pane := by
      rw [at_comb hl, Int.one_mul, Int.one_mul, Int.emod_emod_of_dvd _ W.dvd]
    have ih' := ih (f := moved m w f) (moved_vec hm hx) (moved_vec hm hf)
    rw [← moved_add hm hx hf W.tgt] at ih'
    constructor
    · rintro ⟨wk', h⟩
      generalize hr : (at_ x w.src % w.pane :: rds : List Int) = r at h
      cases h with
      | look g1 g2 g3 g4 =>
        cases h1.inj g1
        rw [h2] at g2
        cases g2
        injection hr with e1 e2
        rw [← e1, h3] at g3
        cases g3
        subst e2
        refine ⟨(add_mod_iff (a := at_ x w.src) W.pane.1).mp ?_, ih'.mp ⟨_, g4⟩⟩
        rw [← er, e1]
    · rintro ⟨z1, z2⟩
      obtain ⟨wk', h⟩ := ih'.mpr z2
      have e := (add_mod_iff (a := at_ x w.src) W.pane.1).mpr z1
      rw [← er] at e
      refine ⟨w :: wk', ?_⟩
      rw [← e]
      exact .look h1 h2 (by rw [e]; exact h3) h
end
end WM
end
section
set_option linter.unusedVariables false
namespace WM
section
variable {N : Type} {m : Int} {n : Nat}
/-! ### the branches of a plan -/
/-- the present positions -/
def img (m : Int) (M : List (List Int)) (x : List Int) : List Int := M.map fun r => dot r (at_ x) % m
structure Mat (m : Int) (n : Nat) (M : List (List Int)) : Prop where
  len : M.length = n
  row : ∀ r ∈ M, Vec m n r
def rowAt (M : List (List Int)) (i : Nat) : List Int := M.getD i []
theorem rowAt_some {M : List (List Int)} {i : Nat} (h : i < M.length) : M[i]? = some (rowAt M i) := by simp [rowAt, h]
theorem Mat.vec {M : List (List Int)} (h : Mat m n M) {i : Nat} (hi : i < n) : Vec m n (rowAt M i) := h.row _ (List.mem_of_getElem? (rowAt_some (by rw [h.len]; exact hi)))
def later (m : Int) (w : Win N) (M : List (List Int)) : List (List Int) := M.set w.tgt (comb m 1 (rowAt M w.tgt) w.fac (rowAt M w.src))
theorem later_mat (hm : 0 < m) {w : Win N} {M : List (List Int)} (h : Mat m n M) (h1 : w.src < n) (h2 : w.tgt < n) : Mat m n (later m w M) := by
  refine ⟨by unfold later; rw [List.length_set, h.len], fun r hr => ?_⟩
  unfold later at hr
  rcases List.mem_or_eq_of_mem_set hr with hr | rfl
  · exact h.row r hr
  · exact .comb hm (h.vec h2).len (h.vec h1).len
theorem at_img {M : List (List Int)} {x : List Int} {i : Nat} (hi : i < M.length) : at_ (img m M x) i = dot (rowAt M i) (at_ x) % m := by
  unfold img at_
  rw [List.getD_eq_getElem?_getD, List.getElem?_map, rowAt_some hi]
  rfl
theorem img_vec (hm : 0 < m) {M : List (List Int)} (h : Mat m n M) (x : List Int) : Vec m n (img m M x) := by
  refine ⟨by unfold img; rw [List.length_map, h.len], fun a ha => ?_⟩
  unfold img at ha
  obtain ⟨r, _, rfl⟩ := List.mem_map.mp ha
  exact ⟨Int.emod_nonneg _ (by omega), Int.emod_lt_of_pos _ hm⟩
theorem dot_zip (m a b : Int) : ∀ (u v : List Int) (f : F), u.length = v.length → m ∣ dot (comb m a u b v) f - (a * dot u f + b * dot v f)
  | [], [], f, _ => ⟨0, by simp [comb, dot]⟩
  | x :: u, y :: v, f, h => by
    obtain ⟨z, hz⟩ := dot_zip m a b u v (fun i => f (i + 1)) (by simpa using h)
    obtain ⟨q, hq⟩ := emod_cg m (a * x + b * y)
    refine ⟨q * f 0 + z, ?_⟩
    show (a * x + b * y) % m * f 0 + dot (comb m a u b v) (fun i => f (i + 1)) - (a * (x * f 0 + dot u fun i => f (i + 1)) + b * (y * f 0 + dot v fun i => f (i + 1))) = _
    grind
theorem mod_eq_of {m a b : Int} (h : m ∣ a - b) : a % m = b % m := Int.emod_eq_emod_iff_emod_sub_eq_zero.mpr (Int.emod_eq_zero_of_dvd h)
theorem img_later (hm : 0 < m) {w : Win N} {M : List (List Int)} (h : Mat m n M) (h1 : w.src < n) (h2 : w.tgt < n) (x : List Int) : img m (later m w M) x = moved m w (img m M x) := by
  have hl := later_mat hm h h1 h2
  have hi : (img m M x).length = n := (img_vec hm h x).len
  refine at_ext (by rw [(img_vec hm hl x).len, moved_len, hi]) fun i hi' => ?_
  have hin : i < n := by rw [(img_vec hm hl x).len] at hi'; exact hi'
  rw [at_img (by rw [hl.len]; exact hin), at_moved (by rw [hi]; exact h2)]
  have er : rowAt (later m w M) i = if i = w.tgt then comb m 1 (rowAt M w.tgt) w.fac (rowAt M w.src) else rowAt M i := by
    unfold later rowAt
    rw [List.getD_eq_getElem?_getD, List.getElem?_set]
    by_cases e : i = w.tgt
    · subst e
      rw [if_pos rfl, if_pos rfl]
      have : w.tgt < M.length := by rw [h.len]; exact h2
      simp [this]
    · rw [if_neg (fun q => e q.symm), if_neg e, List.getD_eq_getElem?_getD]
  rw [er]
  by_cases e : i = w.tgt
  · rw [if_pos e, if_pos e, at_img (by rw [h.len]; exact h2), at_img (by rw [h.len]; exact h1)]
    apply mod_eq_of
    obtain ⟨z, hz⟩ := dot_zip m 1 w.fac (rowAt M w.tgt) (rowAt M w.src) (at_ x) ((h.vec h2).len.trans (h.vec h1).len.symm)
    obtain ⟨a, ha⟩ := emod_cg m (dot (rowAt M w.tgt) (at_ x))
    obtain ⟨b, hb⟩ := emod_cg m (dot (rowAt M w.src) (at_ x))
    exact ⟨z - a - w.fac * b, by grind⟩
  · rw [if_neg e, if_neg e, at_img (by rw [h.len]; exact hin)]
/-- one list ahead of another: they differ at a place that both have -/
def LLt (a b : List Int) : Prop := ∃ p x y s t, a = p ++ x :: s ∧ b = p ++ y :: t ∧ x < y
theorem LLt.pre {a b : List Int} (q : List Int) (h : LLt a b) : LLt (q ++ a) (q ++ b) := by
  obtain ⟨p, x, y, s, t, rfl, rfl, h⟩ := h
  exact ⟨q ++ p, x, y, s, t, by simp, by simp, h⟩
abbrev Leaf := List Int × Pv × List Int
structure BrOk (ws : List (Win N)) (m : Int) (n : Nat) (S : List Int → Prop) (p : Plan N) (mk : Nat) (M : List (List Int)) (pre : List Int) (res : List Leaf) : Prop where
  ok : ∀ lf ∈ res, Cos m n lf.2.1 lf.2.2 ∧ ∃ rds, lf.1 = pre ++ rds ∧ ∀ x, Mem m n lf.2.1 lf.2.2 x ↔ S x ∧ ∃ wk, Plays ws m p mk (img m M x) rds wk
  all : ∀ x, S x → ∃ lf ∈ res, ∃ rds wk, lf.1 = pre ++ rds ∧ Plays ws m p mk (img m M x) rds wk
  srt : (res.map (·.1)).Pairwise LLt
theorem BrOk.none {ws : List (Win N)} {mk : Nat} {M : List (List Int)} {pre : List Int} {L : Pv} {b : List Int} (c : Cos m n L b) : BrOk ws m n (Mem m n L b) .none mk M pre [(pre, L, b)] := by
  refine ⟨fun lf h => ?_, fun x hx => ⟨_, List.mem_singleton.mpr rfl, [], [], by simp, .none⟩, by simp⟩
  rw [List.mem_singleton.mp h]
  refine ⟨c, [], by simp, fun x => ⟨fun h => ⟨h, [], .none⟩, fun h => h.1⟩⟩
theorem BrOk.same {ws : List (Win N)} {S S' : List Int → Prop} {p : Plan N} {mk : Nat} {M : List (List Int)} {pre : List Int} {res : List Leaf} (e : ∀ x, S x ↔ S' x) (h : BrOk ws m n S p mk M pre res) : BrOk ws m n S' p mk M pre res := by
  have : S = S' := funext fun x => propext (e x)
  rw [← this]; exact h
theorem BrOk.nil {ws : List (Win N)} {S : List Int → Prop} {p : Plan N} {mk : Nat} {M : List (List Int)} {pre : List Int} (e : ∀ x, ¬ S x) : BrOk ws m n S p mk M pre [] :=
  ⟨(fun _ h => nomatch h), (fun x hx => absurd hx (e x)), List.Pairwise.nil⟩
/-- the reading of a look -/
def rdg (m : Int) (M : List (List Int)) (w : Win N) (x : List Int) : Int := dot (rowAt M w.src) (at_ x) % w.pane
theorem plays_look (hm : 0 < m) {ws : List (Win N)} {nm : N} {subs : List (Plan N)} {mk mk' : Nat} {w : Win N} {stops : Nat} {M : List (List Int)} (hM : Mat m n M) (W : WinOk m n stops w) (h1 : Named ws nm w) (h2 : w.moves[mk]? = some (some mk')) (x : List Int) {r : Int} {rds : List Int} :
    (∃ wk, Plays ws m (.look nm subs) mk (img m M x) (r :: rds) wk) ↔ rdg m M w x = r ∧ ∃ sub wk, subs[r.toNat]? = some sub ∧ Plays ws m sub mk' (img m (later m w M) x) rds wk := by
  have er : at_ (img m M x) w.src % w.pane = rdg m M w x := by
    rw [at_img (by rw [hM.len]; exact W.src), Int.emod_emod_of_dvd _ W.dvd]; rfl
  rw [img_later hm hM W.src W.tgt]
  constructor
  · rintro ⟨wk, h⟩
    generalize hr : (r :: rds : List Int) = l at h
    cases h with
    | look g1 g2 g3 g4 =>
      cases h1.inj g1
      rw [h2] at g2
      cases g2
      injection hr with e1 e2
      subst e2
      rw [er] at e1 g3
      subst e1
      exact ⟨rfl, _, _, g3, g4⟩
  · rintro ⟨rfl, sub, wk, h3, h4⟩
    refine ⟨w :: wk, ?_⟩
    rw [← er]
    exact .look h1 h2 (by rw [er]; exact h3) h4
theorem BrOk.step (hm : 0 < m) {ws : List (Win N)} {nm : N} {subs : List (Plan N)} {mk mk' : Nat} {w : Win N} {stops : Nat} {M : List (List Int)} {pre : List Int} {S : List Int → Prop} {i : Nat} {sub : Plan N} {res res' : List Leaf}
    (hM : Mat m n M) (W : WinOk m n stops w) (h1 : Named ws nm w) (h2 : w.moves[mk]? = some (some mk')) (h3 : subs[i]? = some sub)
    (a : BrOk ws m n (fun x => S x ∧ rdg m M w x < i) (.look nm subs) mk M pre res) (b : BrOk ws m n (fun x => S x ∧ rdg m M w x = i) sub mk' (later m w M) (pre ++ [(i : Int)]) res') :
    BrOk ws m n (fun x => S x ∧ rdg m M w x < (i + 1 : Nat)) (.look nm subs) mk M pre (res ++ res') := by
  have key : ∀ (x : List Int) rds, (∃ wk, Plays ws m (.look nm subs) mk (img m M x) rds wk) ↔ ∃ r rds', rds = r :: rds' ∧ rdg m M w x = r ∧ ∃ sub wk, subs[r.toNat]? = some sub ∧ Plays ws m sub mk' (img m (later m w M) x) rds' wk := by
    intro x rds
    cases rds with
    | nil =>
      constructor
      · rintro ⟨wk, h⟩
        cases h
      · rintro ⟨r, rds', h, _⟩
        cases h
    | cons r rds =>
      rw [plays_look hm hM W h1 h2]
      constructor
      · rintro ⟨e, q⟩; exact ⟨r, rds, rfl, e, q⟩
      · rintro ⟨r', rds', e, q1, q2⟩
        injection e with e1 e2
        subst e1; subst e2
        exact ⟨q1, q2⟩
  have rd_nn : ∀ x, 0 ≤ rdg m M w x := fun x => Int.emod_nonneg _ (by have := W.pane; omega)
  refine ⟨fun lf h => ?_, fun x ⟨hx, hr⟩ => ?_, ?_⟩
  · rcases List.mem_append.mp h with h | h
    · obtain ⟨c, rds, e, hx⟩ := a.ok lf h
      refine ⟨c, rds, e, fun x => ?_⟩
      rw [hx]
      constructor
      · rintro ⟨⟨h4, h5⟩, h6⟩; exact ⟨⟨h4, by omega⟩, h6⟩
      · rintro ⟨⟨h4, h5⟩, h6⟩
        refine ⟨⟨h4, ?_⟩, h6⟩
        -- the leaf's own base tells its first reading
        obtain ⟨⟨_, hb⟩, wk, hp⟩ := (hx lf.2.2).mp c.base
        obtain ⟨r, rds', e1, e2, _⟩ := (key _ _).mp ⟨wk, hp⟩
        obtain ⟨r2, rds2, e3, e4, _⟩ := (key _ _).mp h6
        rw [e1] at e3
        injection e3 with e5 _
        omega
    · obtain ⟨c, rds, e, hx⟩ := b.ok lf h
      refine ⟨c, (i : Int) :: rds, by rw [e]; simp, fun x => ?_⟩
      rw [hx, key]
      constructor
      · rintro ⟨⟨h4, h5⟩, wk, h6⟩
        exact ⟨⟨h4, by omega⟩, i, rds, rfl, h5, sub, wk, by simpa using h3, h6⟩
      · rintro ⟨⟨h4, h5⟩, r, rds', e1, h7, sub', wk, h8, h9⟩
        injection e1 with e2 e3
        subst e2; subst e3
        have : sub' = sub := by
          rw [Int.toNat_natCast, h3] at h8
          exact (Option.some.inj h8).symm
        subst this
        exact ⟨⟨h4, h7⟩, wk, h9⟩
  · by_cases e : rdg m M w x = i
    · obtain ⟨lf, hl, rds, wk, e1, h4⟩ := b.all x ⟨hx, e⟩
      obtain ⟨wk', h5⟩ := (key x ((i : Int) :: rds)).mpr ⟨i, rds, rfl, e, sub, wk, by simpa using h3, h4⟩
      exact ⟨lf, by simp [hl], (i : Int) :: rds, wk', by rw [e1]; simp, h5⟩
    · obtain ⟨lf, hl, h4⟩ := a.all x ⟨hx, by omega⟩
      exact ⟨lf, by simp [hl], h4⟩
  · rw [List.map_append, List.pairwise_append]
    refine ⟨a.srt, b.srt, fun u hu v hv => ?_⟩
    obtain ⟨lf, hl, rfl⟩ := List.mem_map.mp hu
    obtain ⟨lf', hl', rfl⟩ := List.mem_map.mp hv
    obtain ⟨c, rds, e, hx⟩ := a.ok lf hl
    obtain ⟨c', rds', e', hx'⟩ := b.ok lf' hl'
    obtain ⟨⟨_, hb⟩, wk, hp⟩ := (hx lf.2.2).mp c.base
    obtain ⟨r, rds2, e1, e2, _⟩ := (key _ _).mp ⟨wk, hp⟩
    refine ⟨pre, r, i, rds2, rds', by rw [e, e1], by rw [e']; simp, by omega⟩
theorem BrOk.look (hm : 0 < m) {ws : List (Win N)} {nm : N} {subs : List (Plan N)} {mk : Nat} {w : Win N} {M : List (List Int)} {pre : List Int} {S : List Int → Prop} {res : List Leaf} (W : 0 < w.pane) (hl : (subs.length : Int) = w.pane)
    (a : BrOk ws m n (fun x => S x ∧ rdg m M w x < subs.length) (.look nm subs) mk M pre res) : BrOk ws m n S (.look nm subs) mk M pre res :=
  a.same fun x => ⟨fun h => h.1, fun h => ⟨h, by rw [hl]; exact Int.emod_lt_of_pos _ W⟩⟩

/-! ### what the leaves are, told at the root -/
def unitM (n : Nat) : List (List Int) := (List.range n).map fun k => (List.range n).map fun j => if j = k then 1 else 0
theorem unit_row {n k : Nat} (hk : k < n) : rowAt (unitM n) k = (List.range n).map fun j => if j = k then 1 else 0 := by
  unfold rowAt unitM
  simp [hk]
theorem dot_range_ite (k : Nat) : ∀ (n a : Nat) (f : F), dot ((List.range' a n).map fun j => if j = k then (1 : Int) else 0) f = if a ≤ k ∧ k < a + n then f (k - a) else 0
  | 0, a, f => by
    rw [if_neg (by omega)]; rfl
  | n + 1, a, f => by
    rw [List.range'_succ, List.map_cons]
    show (if a = k then (1 : Int) else 0) * f 0 + dot _ (fun i => f (i + 1)) = _
    rw [dot_range_ite k n (a + 1)]
    by_cases e : a = k
    · subst e
      rw [if_pos rfl, if_neg (by omega), if_pos (by omega), Nat.sub_self]; simp
    · rw [if_neg e]
      by_cases h : a + 1 ≤ k ∧ k < a + 1 + n
      · rw [if_pos h, if_pos (by omega)]
        have : k - (a + 1) + 1 = k - a := by omega
        rw [this]; simp
      · rw [if_neg h, if_neg (by omega)]; simp
theorem dot_unit {n k : Nat} (hk : k < n) (f : F) : dot (rowAt (unitM n) k) f = f k := by
  rw [unit_row hk, List.range_eq_range', dot_range_ite k n 0 f, if_pos (by omega), Nat.sub_zero]
theorem img_unit (hm : 0 < m) {x : List Int} (hx : Vec m n x) : img m (unitM n) x = x := by
  have hl : (unitM n).length = n := by simp [unitM]
  have hi : (img m (unitM n) x).length = n := by unfold img; rw [List.length_map, hl]
  refine at_ext (hi.trans hx.len.symm) fun i h => ?_
  rw [hi] at h
  rw [at_img (by rw [hl]; exact h), dot_unit h]
  have := hx.at hm i
  exact Int.emod_eq_of_lt this.1 this.2
theorem unit_mat (h1 : 1 < m) (n : Nat) : Mat m n (unitM n) := by
  refine ⟨by simp [unitM], fun r hr => ?_⟩
  unfold unitM at hr
  obtain ⟨k, _, rfl⟩ := List.mem_map.mp hr
  refine ⟨by simp, fun a ha => ?_⟩
  obtain ⟨j, _, rfl⟩ := List.mem_map.mp ha
  split <;> omega
/-- the leaves of a plan from a mark over a coset -/
structure Leaves (ws : List (Win N)) (m : Int) (n : Nat) (L : Pv) (b : List Int) (p : Plan N) (mk : Nat) (res : List Leaf) : Prop where
  cos : ∀ lf ∈ res, Cos m n lf.2.1 lf.2.2
  mem : ∀ lf ∈ res, ∀ x, Mem m n lf.2.1 lf.2.2 x ↔ Mem m n L b x ∧ ∃ wk, Plays ws m p mk x lf.1 wk
  all : ∀ x, Mem m n L b x → ∃ lf ∈ res, ∃ wk, Plays ws m p mk x lf.1 wk
  srt : (res.map (·.1)).Pairwise LLt
theorem BrOk.leaves (hm : 0 < m) {ws : List (Win N)} {L : Pv} {b : List Int} {p : Plan N} {mk : Nat} {res : List Leaf} (h : BrOk ws m n (Mem m n L b) p mk (unitM n) [] res) : Leaves ws m n L b p mk res := by
  refine ⟨fun lf hl => (h.ok lf hl).1, fun lf hl x => ?_, fun x hx => ?_, h.srt⟩
  · obtain ⟨_, rds, e, hx⟩ := h.ok lf hl
    rw [List.nil_append] at e
    rw [hx, e]
    constructor
    · rintro ⟨h1, wk, h2⟩
      rw [img_unit hm h1.1] at h2
      exact ⟨h1, wk, h2⟩
    · rintro ⟨h1, wk, h2⟩
      refine ⟨h1, wk, ?_⟩
      rw [img_unit hm h1.1]
      exact h2
  · obtain ⟨lf, hl, rds, wk, e, h2⟩ := h.all x hx
    rw [img_unit hm hx.1] at h2
    rw [List.nil_append] at e
    exact ⟨lf, hl, wk, e ▸ h2⟩
end
end WM
end
section
namespace WM
/-! bounds for insert's loop -/
theorem len_le_pw (n : Nat) : ∀ ps : List (List Int), ps.length ≤ pw n ps
  | [] => Nat.zero_le _
  | v :: ps => by
    have h1 := wt_pos n v
    have h2 := len_le_pw n ps
    unfold pw at h2 ⊢
    simp only [List.length_cons, List.map_cons, List.sum_cons]
    omega
theorem len_le_msr (m : Int) (n : Nat) (L : Pv) (ps : List (List Int)) : ps.length ≤ msr m n L ps := by
  have := len_le_pw n ps
  unfold msr
  omega
theorem val_le {m : Int} {n : Nat} {L : Pv} (hm : 0 < m) (p : Piv m n L) (k : Nat) : val m L k ≤ m.toNat := by
  unfold val
  cases h : L.lookup k with
  | none => exact Nat.le_refl _
  | some r =>
    have R := p.ok k r (lookup_mem h)
    have := Int.le_of_dvd hm R.dvd
    show (at_ r k).toNat ≤ m.toNat
    omega
theorem sum_le_mul {f : Nat → Nat} {B : Nat} : ∀ l : List Nat, (∀ i ∈ l, f i ≤ B) → (l.map f).sum ≤ l.length * B
  | [], _ => by simp
  | a :: l, h => by
    have h1 := h a (by simp)
    have h2 := sum_le_mul l fun i hi => h i (by simp [hi])
    simp only [List.map_cons, List.sum_cons, List.length_cons]
    rw [Nat.succ_mul]
    omega
theorem msr_le {m : Int} {n : Nat} {L : Pv} (hm : 0 < m) (h60 : m ≤ 60) (hn : n ≤ 13) (p : Piv m n L) (u : List Int) : msr m n L [u] ≤ 100000 := by
  have h1 : tot m n L ≤ n * m.toNat := by
    have := sum_le_mul (f := val m L) (B := m.toNat) (List.range n) fun i _ => val_le hm p i
    rwa [List.length_range] at this
  have h2 : wt n u ≤ n + 1 := by unfold wt; omega
  have h3 : n * m.toNat ≤ 13 * 60 := Nat.mul_le_mul hn (by omega)
  have h4 : (n + 1) * tot m n L ≤ 14 * 780 := Nat.mul_le_mul (by omega) (by omega)
  unfold msr
  rw [pw_one, Nat.mul_assoc]
  omega
theorem nodup_le {l : List Nat} {n : Nat} (nd : l.Nodup) (h : ∀ a ∈ l, a < n) : l.length ≤ n := by
  have := List.Nodup.length_le_of_subset nd (fun a ha => List.mem_range.mpr (h a ha))
  rwa [List.length_range] at this
theorem Piv.len_le {m : Int} {n : Nat} {L : Pv} (p : Piv m n L) : L.length ≤ n := by
  have := nodup_le p.nd fun a ha => by
    obtain ⟨⟨k, r⟩, h1, rfl⟩ := List.mem_map.mp ha
    exact (p.ok k r h1).lt
  rwa [List.length_map] at this
end WM
end
section
namespace WM
/-! the law's own arithmetic, in plain words -/
theorem range_zip {α : Type} (f : Int → Int → α) {n : Nat} {u v : List Int} (hu : u.length = n) (hv : v.length = n) : (List.range n).map (fun k => f (at_ u k) (at_ v k)) = List.zipWith f u v := by
  refine List.ext_getElem (by simp [hu, hv]) fun i h1 h2 => ?_
  have hi : i < n := by simpa using h1
  rw [List.getElem_map, List.getElem_zipWith, List.getElem_range]
  have e1 := at_some (v := u) (i := i) (by omega)
  have e2 := at_some (v := v) (i := i) (by omega)
  rw [List.getElem?_eq_getElem (by omega)] at e1 e2
  injection e1 with e1
  injection e2 with e2
  rw [e1, e2]
theorem range_self {n : Nat} {u : List Int} (hu : u.length = n) : (List.range n).map (fun k => at_ u k) = u := by
  have := range_zip (fun a _ => a) hu hu
  rw [this]
  refine List.ext_getElem (by simp) fun i h1 h2 => by simp
theorem zip_comb' (m t : Int) (u v : List Int) : List.zipWith (fun a b => (a - t * b) % m) u v = comb m 1 u (-t) v := by
  unfold comb
  congr 1
  funext a b
  rw [Int.one_mul, Int.neg_mul, Int.sub_eq_add_neg]
theorem zip_sub (m : Int) (u v : List Int) : List.zipWith (fun a b => (a - b) % m) u v = comb m 1 u (-1) v := by
  unfold comb
  congr 1
  funext a b
  rw [Int.one_mul, Int.neg_mul, Int.one_mul, Int.sub_eq_add_neg]
theorem zip_add (m : Int) (u v : List Int) : List.zipWith (fun a b => (a + b) % m) u v = comb m 1 u 1 v := by
  unfold comb
  congr 1
  funext a b
  rw [Int.one_mul, Int.one_mul]
/-- the first place with a positive entry -/
theorem first_pos {n k : Nat} {f : F} (hk : k < n) (hz : ∀ i, i < k → f i = 0) (hp : 0 < f k) : ((List.range n).filter fun i => decide (f i > 0))[0]? = some k := by
  have e : List.range n = List.range k ++ (k :: (List.range (n - (k + 1))).map (· + (k + 1))) := by
    have : n = (k + 1) + (n - (k + 1)) := by omega
    conv => lhs; rw [this, List.range_add, List.range_succ]
    simp [Nat.add_comm]
  rw [e, List.filter_append]
  have e1 : (List.range k).filter (fun i => decide (f i > 0)) = [] := by
    rw [List.filter_eq_nil_iff]
    intro i hi
    rw [hz i (by simpa using hi)]
    simp
  rw [e1, List.nil_append, List.filter_cons]
  simp [hp]
theorem first_entry {v : List Int} {k : Nat} (hk : k < v.length) (hz : ∀ i, i < k → at_ v i = 0) (hp : 0 < at_ v k) : (v.filter fun a => decide (a > 0))[0]? = some (at_ v k) := by
  have h := first_pos hk hz hp
  have e : v.filter (fun a => decide (a > 0)) = ((List.range v.length).filter fun i => decide (at_ v i > 0)).map (at_ v) := by
    conv => lhs; rw [← range_self (u := v) rfl]
    rw [List.filter_map]
    rfl
  rw [e, List.getElem?_map, h]
  rfl
/-- the divisors, from 1 up -/
def divs (n : Nat) : List Int := ((List.range n).filter fun i : Nat => decide ((n : Int) % (1 + (i : Int)) = 0)).map fun i : Nat => 1 + (i : Int)
theorem divs_ok {n : Nat} {d : Int} (h : d ∈ divs n) : 1 ≤ d ∧ d ≤ n ∧ d ∣ n := by
  obtain ⟨i, hi, rfl⟩ := List.mem_map.mp h
  rw [List.mem_filter] at hi
  obtain ⟨h1, h2⟩ := hi
  have h1 : i < n := by simpa using h1
  simp only [decide_eq_true_eq] at h2
  exact ⟨by omega, by omega, Int.dvd_of_emod_eq_zero h2⟩
theorem divs_len (n : Nat) : (divs n).length ≤ n := by
  unfold divs
  rw [List.length_map]
  have := List.length_filter_le (fun i : Nat => decide ((n : Int) % (1 + (i : Int)) = 0)) (List.range n)
  simpa using this
theorem divs_ne {n : Nat} (hn : 1 ≤ n) : 0 < (divs n).length := by
  have : (1 : Int) ∈ divs n := List.mem_map.mpr ⟨0, List.mem_filter.mpr ⟨by simp; omega, by simp [Int.emod_one]⟩, rfl⟩
  exact List.length_pos_of_mem this
/-- the pairs of _law_first_left -/
def pairStep {N : Type} (m : Int) (w : Win N) (ps : List (List Int × List Int)) : List (List Int × List Int) := (ps.filter fun p => decide (at_ p.2 w.src % w.pane = 0)).map fun p => (p.1, moved m w p.2)
def pairsOf {N : Type} (m : Int) (ws : List (Win N)) (xs : List (List Int)) : List (List Int × List Int) := ws.foldl (fun ps w => pairStep m w ps) (xs.map fun x => (x, x))
end WM
end
section
namespace WM
/-! all members of a span, as the law finds them -/
theorem nodup_len_le {α : Type} [DecidableEq α] : ∀ {l m : List α}, l.Nodup → (∀ x ∈ l, x ∈ m) → l.length ≤ m.length
  | [], _, _, _ => Nat.zero_le _
  | a :: l, m, hn, h => by
    rw [List.nodup_cons] at hn
    have ha := h a (by simp)
    have h1 := nodup_len_le (l := l) (m := m.erase a) hn.2 fun x hx => (List.mem_erase_of_ne fun e => hn.1 (by rw [← e]; exact hx)).mpr (h x (by simp [hx]))
    have h2 := List.length_erase_of_mem ha
    have h3 := List.length_pos_of_mem ha
    rw [List.length_cons]
    omega
def allV (m : Nat) : Nat → List (List Int)
  | 0 => [[]]
  | n + 1 => (List.range m).flatMap fun a : Nat => (allV m n).map fun v => (a : Int) :: v
theorem allV_len (m : Nat) : ∀ n, (allV m n).length = m ^ n
  | 0 => rfl
  | n + 1 => by
    have : ∀ k, ((List.range k).flatMap fun a : Nat => (allV m n).map fun v => (a : Int) :: v).length = k * m ^ n := fun k => by
      induction k with
      | zero => simp
      | succ k ih =>
        rw [List.range_succ, List.flatMap_append, List.length_append, ih]
        simp [allV_len m n, Nat.succ_mul]
    rw [allV, this, Nat.pow_succ, Nat.mul_comm]
theorem allV_mem {m : Nat} : ∀ {n : Nat} {v : List Int}, Vec m n v → v ∈ allV m n
  | 0, v, h => by
    have := List.length_eq_zero_iff.mp h.len
    rw [this]; simp [allV]
  | n + 1, v, h => by
    match v, h with
    | [], h => exact absurd h.len (by simp)
    | a :: v, h =>
      have ha := h.rng a (by simp)
      rw [allV, List.mem_flatMap]
      refine ⟨a.toNat, by simp; omega, List.mem_map.mpr ⟨v, allV_mem ⟨by have := h.len; simpa using this, fun x hx => h.rng x (by simp [hx])⟩, ?_⟩⟩
      rw [Int.toNat_of_nonneg ha.1]
theorem vec_count {m n : Nat} {l : List (List Int)} (hn : l.Nodup) (h : ∀ x ∈ l, Vec m n x) : l.length ≤ m ^ n := by
  rw [← allV_len]
  exact nodup_len_le hn fun x hx => allV_mem (h x hx)
/-- two of one length that are not the same differ first somewhere -/
theorem llt_total : ∀ {a b : List Int}, a.length = b.length → a ≠ b → LLt a b ∨ LLt b a
  | [], [], _, h => absurd rfl h
  | [], _ :: _, h, _ => by simp at h
  | _ :: _, [], h, _ => by simp at h
  | x :: a, y :: b, h, hne => by
    rcases Int.lt_trichotomy x y with e | e | e
    · exact .inl ⟨[], x, y, a, b, rfl, rfl, e⟩
    · subst e
      rcases llt_total (a := a) (b := b) (by simpa using h) (fun z => hne (by rw [z])) with z | z
      · exact .inl (z.pre [x])
      · exact .inr (z.pre [x])
    · exact .inr ⟨[], y, x, b, a, rfl, rfl, e⟩
/-- sorted, no two the same, all of one length: strictly ascending -/
theorem asc_llt {n : Nat} {l : List (List Int)} (h : l.Pairwise fun a b => ¬ LLt b a) (hn : l.Nodup) (hl : ∀ x ∈ l, x.length = n) : l.Pairwise LLt := by
  induction l with
  | nil => exact .nil
  | cons a l ih =>
    rw [List.pairwise_cons] at h ⊢
    rw [List.nodup_cons] at hn
    refine ⟨fun b hb => ?_, ih h.2 hn.2 fun x hx => hl x (by simp [hx])⟩
    rcases llt_total (a := a) (b := b) (by rw [hl a (by simp), hl b (by simp [hb])]) (fun e => hn.1 (e ▸ hb)) with z | z
    · exact z
    · exact absurd z (h.1 b hb)
def GenV (vs : List (List Int)) : F → Prop := fun f => ∃ v ∈ vs, f = at_ v
structure Mems (m : Int) (n : Nat) (vs ks : List (List Int)) : Prop where
  nd : ks.Nodup
  mem : ∀ x, x ∈ ks ↔ Vec m n x ∧ In m (GenV vs) (at_ x)
theorem mems_nil {m : Int} (hm : 1 < m) (n : Nat) : Mems m n [] [List.replicate n 0] := by
  refine ⟨by simp, fun x => ?_⟩
  rw [List.mem_singleton]
  have h0 : ∀ i, at_ (List.replicate n (0 : Int)) i = 0 := fun i => by
    by_cases hi : i < n
    · simp [at_, List.getD, List.getElem?_replicate, hi]
    · exact at_out (by simp; omega)
  constructor
  · rintro rfl
    refine ⟨⟨by simp, fun a ha => ?_⟩, .zero fun i => by rw [h0]; exact Int.dvd_zero _⟩
    rw [List.eq_of_mem_replicate ha]
    omega
  · rintro ⟨hx, hin⟩
    refine at_ext (by simp [hx.len]) fun i hi => ?_
    rw [h0]
    cases hin with
    | zero z => exact small_dvd (hx.at (by omega) i) (z i)
    | step c hg _ _ => obtain ⟨v, hv, _⟩ := hg; cases hv
theorem Mems.vec {m : Int} {n : Nat} {vs ks : List (List Int)} (h : Mems m n vs ks) : ∀ x ∈ ks, Vec m n x := fun x hx => ((h.mem x).mp hx).1
theorem genV_snoc {vs : List (List Int)} {v : List Int} {f : F} : GenV (vs ++ [v]) f ↔ GenV vs f ∨ f = at_ v := by
  constructor
  · rintro ⟨u, hu, e⟩
    rcases List.mem_append.mp hu with z | z
    · exact .inl ⟨u, z, e⟩
    · exact .inr (by rw [e, List.mem_singleton.mp z])
  · rintro (⟨u, hu, e⟩ | e)
    · exact ⟨u, by simp [hu], e⟩
    · exact ⟨v, by simp, e⟩
theorem Mems.old {m : Int} {n : Nat} {vs ks : List (List Int)} {v : List Int} (h : Mems m n vs ks) (hv : v ∈ ks) : Mems m n (vs ++ [v]) ks := by
  refine ⟨h.nd, fun x => ?_⟩
  rw [h.mem]
  have hin := ((h.mem v).mp hv).2
  refine and_congr_right fun _ => ⟨fun z => z.weak fun g hg => genV_snoc.mpr (.inl hg), fun z => z.mono fun g hg => ?_⟩
  rcases genV_snoc.mp hg with e | e
  · exact .gen e
  · rw [e]; exact hin
/-- what a generator more gives: a member of the span without it and a multiple of it -/
theorem in_snoc {m : Int} {vs : List (List Int)} {v : List Int} {f : F} (h : In m (GenV (vs ++ [v])) f) : ∃ c, In m (GenV vs) (fun i => f i - c * at_ v i) := by
  induction h with
  | zero z => exact ⟨0, .zero fun i => by rw [Int.zero_mul, Int.sub_zero]; exact z i⟩
  | @step f g h c hg _ hh ih =>
    obtain ⟨d, hd⟩ := ih
    rcases genV_snoc.mp hg with e | e
    · refine ⟨d, .step c e hd fun i => ?_⟩
      have := hh i
      have e2 : h i - d * at_ v i - (f i - d * at_ v i + c * g i) = h i - (f i + c * g i) := by omega
      rw [e2]; exact this
    · refine ⟨d + c, hd.cg fun i => ?_⟩
      have := hh i
      rw [e] at this
      have e2 : h i - (d + c) * at_ v i - (f i - d * at_ v i) = h i - (f i + c * at_ v i) := by rw [Int.add_mul]; omega
      rw [e2]; exact this
theorem Mems.new {m : Int} {n : Nat} {vs ks ks' : List (List Int)} {v : List Int} (hm : 0 < m) (h : Mems m n vs ks) (hv : Vec m n v) (hn : ks'.Nodup) (hk : ∀ x, x ∈ ks' ↔ x ∈ ks ∨ ∃ u ∈ ks, ∃ t : Int, 1 ≤ t ∧ t < m ∧ x = comb m 1 u t v) : Mems m n (vs ++ [v]) ks' := by
  refine ⟨hn, fun x => ?_⟩
  rw [hk]
  constructor
  · rintro (hx | ⟨u, hu, t, _, _, rfl⟩)
    · have := (h.mem x).mp hx
      exact ⟨this.1, this.2.weak fun g hg => genV_snoc.mpr (.inl hg)⟩
    · have h1 := (h.mem u).mp hu
      refine ⟨Vec.comb hm h1.1.len hv.len, In.lin (a := 1) (b := t) (h1.2.weak fun g hg => genV_snoc.mpr (.inl hg)) (.gen (genV_snoc.mpr (.inr rfl))) fun i => ?_⟩
      exact comb_cg (by rw [h1.1.len, hv.len]) i
  · rintro ⟨hx, hin⟩
    obtain ⟨c, hc⟩ := in_snoc hin
    have hu : Vec m n (comb m 1 x (-c) v) := Vec.comb hm hx.len hv.len
    have hu2 : comb m 1 x (-c) v ∈ ks := (h.mem _).mpr ⟨hu, hc.cg fun i => by
      have := comb_cg (m := m) (a := 1) (b := -c) (u := x) (v := v) (by rw [hx.len, hv.len]) i
      rwa [show (1 : Int) * at_ x i + -c * at_ v i = at_ x i - c * at_ v i by rw [Int.one_mul, Int.neg_mul, Int.sub_eq_add_neg]] at this⟩
    have hc0 := Int.emod_nonneg c (b := m) (by omega)
    have hc1 := Int.emod_lt_of_pos c hm
    -- x is that member and c % m times v
    have hxe : x = comb m 1 (comb m 1 x (-c) v) (c % m) v := by
      refine at_ext (by rw [comb_len (by rw [hu.len, hv.len]), hu.len, hx.len]) fun i _ => ?_
      have a1 := comb_cg (m := m) (a := 1) (b := -c) (u := x) (v := v) (by rw [hx.len, hv.len]) i
      rw [at_comb (by rw [hu.len, hv.len])]
      have a2 := emod_cg m c
      have hxi := hx.at hm i
      rw [show (1 * at_ (comb m 1 x (-c) v) i + c % m * at_ v i) = at_ x i + ((at_ (comb m 1 x (-c) v) i - (1 * at_ x i + -c * at_ v i)) + (c % m - c) * at_ v i) by rw [Int.sub_mul, Int.neg_mul]; omega]
      rw [Int.add_emod, Int.emod_eq_zero_of_dvd (Int.dvd_add a1 (Int.dvd_mul_of_dvd_left a2)), Int.add_zero, Int.emod_emod, Int.emod_eq_of_lt hxi.1 hxi.2]
    by_cases h0 : c % m = 0
    · refine .inl ?_
      have : x = comb m 1 x (-c) v := by
        refine at_ext (by rw [comb_len (by rw [hx.len, hv.len])]) fun i hi => ?_
        have e := congrArg (fun l => at_ l i) hxe
        simp only [h0] at e
        rw [at_comb (by rw [hu.len, hv.len])] at e
        have hui := hu.at hm i
        rw [Int.zero_mul, Int.add_zero, Int.one_mul, Int.emod_eq_of_lt hui.1 hui.2] at e
        exact e
      rw [this]; exact hu2
    · exact .inr ⟨_, hu2, c % m, by omega, hc1, hxe⟩
end WM
end
section
namespace WM
/-! the table of a span by Euclid's algorithm, place by place -/
section
variable {m : Int} {n : Nat} {vs : List (List Int)} {k : Nat} {p q r : List Int} {f g h : F}
/-- the members of a span with nothing ahead of a place -/
def WK (m : Int) (vs : List (List Int)) (k : Nat) (f : F) : Prop := In m (GenV vs) f ∧ ∀ j, j < k → m ∣ f j
theorem WK.lin (a b : Int) (x : WK m vs k f) (y : WK m vs k g) (e : ∀ i, m ∣ h i - (a * f i + b * g i)) : WK m vs k h := ⟨In.lin x.1 y.1 e, fun j hj => by
  have h1 := x.2 j hj
  have h2 := y.2 j hj
  exact dvd_of_sub (e j) (Int.dvd_add (Int.dvd_mul_of_dvd_right h1) (Int.dvd_mul_of_dvd_right h2))⟩
theorem WK.cg (x : WK m vs k f) (e : ∀ i, m ∣ h i - f i) : WK m vs k h := ⟨x.1.cg e, fun j hj => dvd_of_sub (e j) (x.2 j hj)⟩
theorem WK.low {k' : Nat} (x : WK m vs k f) (hk : k' ≤ k) : WK m vs k' f := ⟨x.1, fun j hj => x.2 j (by omega)⟩
theorem wk_in {G : F → Prop} (hG : ∀ g, G g → WK m vs k g) (x : In m G f) : WK m vs k f := by
  induction x with
  | zero z => exact ⟨.zero z, fun j _ => z j⟩
  | @step f g h c hg _ e ih => exact WK.lin 1 c ih (hG g hg) fun i => by rw [Int.one_mul]; exact e i
/-- row k of the result: a member with nothing ahead of k, its entry there the least, dividing m -/
structure HR (m : Int) (n : Nat) (vs : List (List Int)) (k : Nat) (p : List Int) : Prop where
  len : p.length = n
  lt : k < n
  zer : ∀ i, i < k → at_ p i = 0
  pos : 0 < at_ p k
  dvd : at_ p k ∣ m
  rng : ∀ i, k < i → i < n → 0 ≤ at_ p i ∧ at_ p i < m
  top : at_ p k = m → ∀ i, m ∣ at_ p i
  mem : WK m vs k (at_ p)
  split : ∀ f, WK m vs k f → ∃ c, WK m vs (k + 1) (fun i => f i - c * at_ p i)
  how : WK m vs (k + 1) (fun i => m / at_ p k * at_ p i)
theorem vec_of (hl : p.length = n) (h : ∀ i, i < n → 0 ≤ at_ p i ∧ at_ p i < m) : Vec m n p := ⟨hl, fun a ha => by
  obtain ⟨i, hi, rfl⟩ := List.getElem_of_mem ha
  have e := at_some hi
  rw [List.getElem?_eq_getElem hi] at e
  have := h i (by omega)
  rw [← Option.some.inj e] at this
  exact this⟩
theorem HR.row (hm : 0 < m) (x : HR m n vs k p) (hlt : at_ p k < m) : Row m n k p := ⟨vec_of x.len fun i hi => by
  rcases Nat.lt_trichotomy i k with e | e | e
  · rw [x.zer i e]; omega
  · rw [e]; have := x.pos; omega
  · exact x.rng i e hi, x.lt, x.pos, x.zer, x.dvd⟩
/-- minus a multiple of a row behind -/
theorem HR.red (x : HR m n vs k p) (hq : WK m vs (k + 1) (at_ q)) {t : Int} (hl : r.length = n) (hz : ∀ i, i ≤ k → at_ r i = at_ p i) (hr : ∀ i, k < i → i < n → 0 ≤ at_ r i ∧ at_ r i < m) (ht : at_ p k = m → t = 0) (e : ∀ i, m ∣ at_ r i - (at_ p i - t * at_ q i)) : HR m n vs k r := by
  have hk := hz k (Nat.le_refl _)
  refine ⟨hl, x.lt, fun i hi => by rw [hz i (by omega)]; exact x.zer i hi, by rw [hk]; exact x.pos, by rw [hk]; exact x.dvd, hr, fun h i => ?_, ?_, fun f hf => ?_, ?_⟩
  · rw [hk] at h
    have h1 := x.top h i
    have h2 := e i
    rw [ht h, Int.zero_mul, Int.sub_zero] at h2
    exact dvd_of_sub h2 h1
  · exact WK.lin 1 (-t) x.mem (hq.low (by omega)) fun i => by rw [Int.one_mul, Int.neg_mul, ← Int.sub_eq_add_neg]; exact e i
  · obtain ⟨c, hc⟩ := x.split f hf
    refine ⟨c, WK.lin 1 (c * t) hc hq fun i => ?_⟩
    obtain ⟨z, hz⟩ := e i
    exact ⟨-(c * z), by grind⟩
  · refine WK.lin 1 (-(m / at_ p k * t)) x.how hq fun i => ?_
    rw [hk]
    obtain ⟨z, hz⟩ := e i
    exact ⟨m / at_ p k * z, by grind⟩

/-! what the rows give -/
def herL (m : Int) (n : Nat) (ps : Nat → List Int) : Pv := ((List.range n).filter fun k => decide (at_ (ps k) k < m)).map fun k => (k, ps k)
theorem mem_herL {ps : Nat → List Int} : (k, p) ∈ herL m n ps ↔ k < n ∧ at_ (ps k) k < m ∧ p = ps k := by
  unfold herL
  rw [List.mem_map]
  constructor
  · rintro ⟨j, hj, e⟩
    injection e with e1 e2
    subst e1
    rw [List.mem_filter] at hj
    exact ⟨by simpa using hj.1, by simpa using hj.2, e2.symm⟩
  · rintro ⟨h1, h2, rfl⟩
    exact ⟨k, List.mem_filter.mpr ⟨by simpa using h1, by simpa using h2⟩, rfl⟩
theorem her_in (hm : 0 < m) (hv : ∀ v ∈ vs, Vec m n v) {ps : Nat → List Int} (x : ∀ k, k < n → HR m n vs k (ps k)) : ∀ (d k : Nat), k + d = n → ∀ f, WK m vs k f → In m (Hi m (Gen (herL m n ps)) k) f
  | 0, k, e, f, hf => .zero fun i => by
    by_cases hi : i < k
    · exact hf.2 i hi
    · refine In.all_dvd (Int.dvd_refl m) (fun g hg => ?_) hf.1
      obtain ⟨v, h1, rfl⟩ := hg
      rw [at_out (by rw [(hv v h1).len]; omega)]
      exact Int.dvd_zero m
  | d + 1, k, e, f, hf => by
    have hk := x k (by omega)
    obtain ⟨c, hc⟩ := hk.split f hf
    have h1 := her_in hm hv x d (k + 1) (by omega) _ hc
    have h2 : In m (Hi m (Gen (herL m n ps)) k) (fun i => f i - c * at_ (ps k) i) := h1.weak fun g hg => ⟨hg.1, fun i hi => hg.2 i (by omega)⟩
    have hle := Int.le_of_dvd hm hk.dvd
    by_cases hlt : at_ (ps k) k < m
    · exact In.lin (a := 1) (b := c) h2 (.gen (g := at_ (ps k)) ⟨⟨k, ps k, mem_herL.mpr ⟨by omega, hlt, rfl⟩, rfl⟩, fun i hi => by rw [hk.zer i hi]; exact Int.dvd_zero m⟩) fun i => ⟨0, by grind⟩
    · have := hk.top (by omega)
      refine h2.cg fun i => ?_
      obtain ⟨z, hz⟩ := this i
      exact ⟨c * z, by grind⟩
theorem her_tab (hm : 0 < m) (hv : ∀ v ∈ vs, Vec m n v) {ps : Nat → List Int} (x : ∀ k, k < n → HR m n vs k (ps k)) : Tab m n (herL m n ps) ∧ ∀ f, In m (Gen (herL m n ps)) f ↔ In m (GenV vs) f := by
  have hkeys : (herL m n ps).map (·.1) = (List.range n).filter fun k => decide (at_ (ps k) k < m) := by
    unfold herL
    rw [List.map_map]
    exact List.map_id' _
  have hs : ((herL m n ps).map (·.1)).Pairwise (· < ·) := by
    rw [hkeys]
    exact List.Pairwise.filter _ List.pairwise_lt_range
  refine ⟨⟨⟨hs.imp fun h => by omega, fun k r hr => ?_⟩, fun k r hr => ?_, hs⟩, fun f => ⟨fun h => h.mono fun g hg => ?_, fun h => ?_⟩⟩
  · obtain ⟨h1, h2, rfl⟩ := mem_herL.mp hr
    exact (x k h1).row hm h2
  · obtain ⟨h1, h2, rfl⟩ := mem_herL.mp hr
    exact her_in hm hv x (n - (k + 1)) (k + 1) (by omega) _ (x k h1).how
  · obtain ⟨k, r, hr, rfl⟩ := hg
    obtain ⟨h1, h2, rfl⟩ := mem_herL.mp hr
    exact (x k h1).mem.1
  · exact (her_in hm hv x n 0 (by omega) f ⟨h, fun j hj => absurd hj (Nat.not_lt_zero j)⟩).weak fun g hg => hg.1

/-! the first loop -/
/-- the rows that are left hold all members with nothing ahead of k -/
structure Rest (m : Int) (n : Nat) (vs : List (List Int)) (k : Nat) (R : List (List Int)) : Prop where
  vec : ∀ v ∈ R, Vec m n v
  zer : ∀ v ∈ R, ∀ i, i < k → at_ v i = 0
  all : ∀ f, In m (GenV R) f ↔ WK m vs k f
theorem Rest.start (hv : ∀ v ∈ vs, Vec m n v) : Rest m n vs 0 vs := ⟨hv, fun _ _ i hi => absurd hi (Nat.not_lt_zero i), fun f => ⟨fun h => ⟨h, fun j hj => absurd hj (Nat.not_lt_zero j)⟩, fun h => h.1⟩⟩
/-- a pivot while it is sought -/
structure PV (m : Int) (n k : Nat) (p : List Int) : Prop where
  len : p.length = n
  zer : ∀ i, i < k → at_ p i = 0
  pos : 0 < at_ p k
  le : at_ p k ≤ m
  rng : ∀ i, k < i → i < n → 0 ≤ at_ p i ∧ at_ p i < m
  top : at_ p k = m → ∀ i, m ∣ at_ p i
/-- within a row's Euclid: D the rows done, U those to come -/
structure Euc (m : Int) (n : Nat) (vs : List (List Int)) (k : Nat) (p r : List Int) (D U : List (List Int)) : Prop where
  pv : PV m n k p
  rv : Vec m n r
  rz : ∀ i, i < k → at_ r i = 0
  dv : ∀ v ∈ D, Vec m n v
  dz : ∀ v ∈ D, ∀ i, i < k + 1 → at_ v i = 0
  uv : ∀ v ∈ U, Vec m n v
  uz : ∀ v ∈ U, ∀ i, i < k → at_ v i = 0
  all : ∀ f, In m (fun g => g = at_ p ∨ g = at_ r ∨ GenV D g ∨ GenV U g) f ↔ WK m vs k f
  rel : ∃ a b, a * at_ p k + b * at_ r k = m ∧ In m (GenV D) (fun i => a * at_ p i + b * at_ r i)
/-- between two rows -/
structure Mid (m : Int) (n : Nat) (vs : List (List Int)) (k : Nat) (p : List Int) (D U : List (List Int)) : Prop where
  pv : PV m n k p
  dv : ∀ v ∈ D, Vec m n v
  dz : ∀ v ∈ D, ∀ i, i < k + 1 → at_ v i = 0
  uv : ∀ v ∈ U, Vec m n v
  uz : ∀ v ∈ U, ∀ i, i < k → at_ v i = 0
  all : ∀ f, In m (fun g => g = at_ p ∨ GenV D g ∨ GenV U g) f ↔ WK m vs k f
  rel : ∃ a, a * at_ p k = m ∧ In m (GenV D) (fun i => a * at_ p i)
def pivE (m : Int) (n k : Nat) : List Int := (List.range n).map fun j => m * (if j = k then 1 else 0)
theorem at_pivE {n k i : Nat} (hk : k < n) : at_ (pivE m n k) i = if i = k then m else 0 := by
  by_cases hi : i < n
  · unfold at_ pivE
    rw [List.getD_eq_getElem?_getD, List.getElem?_map, List.getElem?_range hi]
    show m * (if i = k then 1 else 0) = _
    split <;> simp
  · rw [at_out (by simp [pivE]; omega), if_neg (by omega)]
theorem Mid.start (hm : 0 < m) (hk : k < n) {R : List (List Int)} (x : Rest m n vs k R) : Mid m n vs k (pivE m n k) [] R := by
  have hd : ∀ i, m ∣ at_ (pivE m n k) i := fun i => by
    rw [at_pivE hk]
    split
    · exact Int.dvd_refl m
    · exact Int.dvd_zero m
  refine ⟨⟨by simp [pivE], fun i hi => by rw [at_pivE hk, if_neg (by omega)], by rw [at_pivE hk, if_pos rfl]; exact hm, by rw [at_pivE hk, if_pos rfl]; exact Int.le_refl m, fun i h1 h2 => by rw [at_pivE hk, if_neg (by omega)]; omega, fun _ => hd⟩, (fun _ h => nomatch h), (fun _ h => nomatch h), x.vec, x.zer, fun f => ?_, 1, by rw [at_pivE hk, if_pos rfl]; omega, .zero fun i => by rw [Int.one_mul]; exact hd i⟩
  rw [← x.all]
  constructor
  · intro h
    refine h.mono fun g hg => ?_
    rcases hg with e | ⟨v, hv, _⟩ | e
    · rw [e]; exact .zero hd
    · cases hv
    · exact .gen e
  · exact fun h => h.weak fun g hg => .inr (.inr hg)
theorem genV_cons {v : List Int} {U : List (List Int)} {f : F} : GenV (v :: U) f ↔ f = at_ v ∨ GenV U f := by
  constructor
  · rintro ⟨u, hu, e⟩
    rcases List.mem_cons.mp hu with z | z
    · exact .inl (by rw [e, z])
    · exact .inr ⟨u, z, e⟩
  · rintro (e | ⟨u, hu, e⟩)
    · exact ⟨v, by simp, e⟩
    · exact ⟨u, by simp [hu], e⟩
theorem Mid.euc {D U : List (List Int)} (x : Mid m n vs k p D (r :: U)) : Euc m n vs k p r D U := by
  obtain ⟨a, h1, h2⟩ := x.rel
  refine ⟨x.pv, x.uv r (by simp), x.uz r (by simp), x.dv, x.dz, fun v hv => x.uv v (by simp [hv]), fun v hv => x.uz v (by simp [hv]), fun f => ?_, a, 0, by omega, h2.cg fun i => ⟨0, by grind⟩⟩
  rw [← x.all]
  have : (fun g => g = at_ p ∨ g = at_ r ∨ GenV D g ∨ GenV U g) = (fun g => g = at_ p ∨ GenV D g ∨ GenV (r :: U) g) := funext fun g => propext (by
    rw [genV_cons]
    constructor
    · rintro (h | h | h | h)
      · exact .inl h
      · exact .inr (.inr (.inl h))
      · exact .inr (.inl h)
      · exact .inr (.inr (.inr h))
    · rintro (h | h | h | h)
      · exact .inl h
      · exact .inr (.inr (.inl h))
      · exact .inr (.inl h)
      · exact .inr (.inr (.inr h)))
  rw [this]
theorem Euc.mid {D U : List (List Int)} (x : Euc m n vs k p r D U) (h0 : at_ r k = 0) : Mid m n vs k p (D ++ [r]) U := by
  obtain ⟨a, b, h1, h2⟩ := x.rel
  refine ⟨x.pv, fun v hv => ?_, fun v hv i hi => ?_, x.uv, x.uz, fun f => ?_, a, by rw [h0, Int.mul_zero, Int.add_zero] at h1; exact h1, ?_⟩
  · rcases List.mem_append.mp hv with z | z
    · exact x.dv v z
    · rw [List.mem_singleton.mp z]; exact x.rv
  · rcases List.mem_append.mp hv with z | z
    · exact x.dz v z i hi
    · rw [List.mem_singleton.mp z]
      by_cases e : i = k
      · rw [e]; exact h0
      · exact x.rz i (by omega)
  · rw [← x.all]
    have : (fun g => g = at_ p ∨ g = at_ r ∨ GenV D g ∨ GenV U g) = (fun g => g = at_ p ∨ GenV (D ++ [r]) g ∨ GenV U g) := funext fun g => propext (by
      rw [genV_snoc]
      constructor
      · rintro (h | h | h | h)
        · exact .inl h
        · exact .inr (.inl (.inr h))
        · exact .inr (.inl (.inl h))
        · exact .inr (.inr h)
      · rintro (h | (h | h) | h)
        · exact .inl h
        · exact .inr (.inr (.inl h))
        · exact .inr (.inl h)
        · exact .inr (.inr (.inr h)))
    rw [this]
  · exact In.lin (a := 1) (b := -b) (h2.weak fun g hg => genV_snoc.mpr (.inl hg)) (.gen (g := at_ r) (genV_snoc.mpr (.inr rfl))) fun i => ⟨0, by grind⟩
/-- one turn of Euclid -/
theorem Euc.step (hm : 0 < m) (hk : k < n) {D U : List (List Int)} (x : Euc m n vs k p r D U) (h0 : at_ r k ≠ 0) : Euc m n vs k r (comb m 1 p (-(at_ p k / at_ r k)) r) D U ∧ 0 ≤ at_ (comb m 1 p (-(at_ p k / at_ r k)) r) k ∧ at_ (comb m 1 p (-(at_ p k / at_ r k)) r) k < at_ r k := by
  have hr := x.rv.at hm k
  have hrp : 0 < at_ r k := by omega
  have hl : p.length = r.length := by rw [x.pv.len, x.rv.len]
  have hmod := Int.emod_nonneg (at_ p k) (b := at_ r k) (by omega)
  have hmod2 := Int.emod_lt_of_pos (at_ p k) hrp
  have hdm := Int.ediv_mul_add_emod (at_ p k) (at_ r k)
  have hk2 : at_ (comb m 1 p (-(at_ p k / at_ r k)) r) k = at_ p k % at_ r k := by
    rw [at_comb hl]
    have : 1 * at_ p k + -(at_ p k / at_ r k) * at_ r k = at_ p k % at_ r k := by rw [Int.neg_mul]; omega
    rw [this, Int.emod_eq_of_lt hmod (by omega)]
  have hcg := fun i => comb_cg (m := m) (a := 1) (b := -(at_ p k / at_ r k)) hl i
  generalize hT : at_ p k / at_ r k = t at *
  generalize hC : comb m 1 p (-t) r = l at *
  have hlv : Vec m n l := by rw [← hC]; exact Vec.comb hm x.pv.len x.rv.len
  refine ⟨⟨⟨x.rv.len, x.rz, hrp, by omega, fun i _ _ => x.rv.at hm i, fun h => by omega⟩, hlv, fun i hi => ?_, x.dv, x.dz, x.uv, x.uz, fun f => ?_, ?_⟩, by rw [hk2]; exact hmod, by rw [hk2]; exact hmod2⟩
  · rw [← hC, at_comb hl, x.pv.zer i hi, x.rz i hi]
    simp
  · rw [← x.all]
    constructor
    · refine fun h => h.mono fun g hg => ?_
      rcases hg with e | e | e | e
      · exact .gen (.inr (.inl e))
      · rw [e]
        exact In.lin (a := 1) (b := -t) (.gen (g := at_ p) (.inl rfl)) (.gen (g := at_ r) (.inr (.inl rfl))) hcg
      · exact .gen (.inr (.inr (.inl e)))
      · exact .gen (.inr (.inr (.inr e)))
    · refine fun h => h.mono fun g hg => ?_
      rcases hg with e | e | e | e
      · rw [e]
        refine In.lin (a := 1) (b := t) (.gen (g := at_ l) (.inr (.inl rfl))) (.gen (g := at_ r) (.inl rfl)) fun i => ?_
        obtain ⟨z, hz⟩ := hcg i
        exact ⟨-z, by grind⟩
      · exact .gen (.inl e)
      · exact .gen (.inr (.inr (.inl e)))
      · exact .gen (.inr (.inr (.inr e)))
  · obtain ⟨a, b, h1, h2⟩ := x.rel
    refine ⟨a * t + b, a, ?_, h2.cg fun i => ?_⟩
    · rw [hk2, ← h1]
      grind
    · obtain ⟨z, hz⟩ := hcg i
      exact ⟨a * z, by grind⟩
theorem in_top {D : List (List Int)} (h : In m (fun g => g = at_ p ∨ GenV D g ∨ GenV [] g) f) : ∃ c, In m (GenV D) (fun i => f i - c * at_ p i) := by
  induction h with
  | zero z => exact ⟨0, .zero fun i => by rw [Int.zero_mul, Int.sub_zero]; exact z i⟩
  | @step f g h c hg _ hh ih =>
    obtain ⟨d, hd⟩ := ih
    rcases hg with e | e | ⟨v, hv, _⟩
    · refine ⟨d + c, hd.cg fun i => ?_⟩
      have := hh i
      rw [e] at this
      obtain ⟨z, hz⟩ := this
      exact ⟨z, by grind⟩
    · refine ⟨d, .step c e hd fun i => ?_⟩
      obtain ⟨z, hz⟩ := hh i
      exact ⟨z, by grind⟩
    · cases hv
theorem Mid.done (hm : 0 < m) (hk : k < n) {D : List (List Int)} (x : Mid m n vs k p D []) : HR m n vs k p ∧ Rest m n vs (k + 1) D := by
  obtain ⟨a, h1, h2⟩ := x.rel
  have hp := x.pv.pos
  have ea : m / at_ p k = a := Int.ediv_eq_of_eq_mul_left (by omega) h1.symm
  have toK : ∀ f, In m (GenV D) f → WK m vs (k + 1) f := fun f hf => ⟨((x.all f).mp (hf.weak fun g hg => .inr (.inl hg))).1, fun j hj => In.all_dvd (Int.dvd_refl m) (fun g ⟨v, hv, e⟩ => by rw [e, x.dz v hv j hj]; exact Int.dvd_zero m) hf⟩
  have hs : ∀ f, WK m vs k f → ∃ c, In m (GenV D) (fun i => f i - c * at_ p i) := fun f hf => in_top ((x.all f).mpr hf)
  refine ⟨⟨x.pv.len, hk, x.pv.zer, hp, ⟨a, by rw [← h1, Int.mul_comm]⟩, x.pv.rng, x.pv.top, (x.all _).mp (.gen (g := at_ p) (.inl rfl)), fun f hf => ?_, ?_⟩, x.dv, x.dz, fun f => ⟨toK f, fun hf => ?_⟩⟩
  · obtain ⟨c, hc⟩ := hs f hf
    exact ⟨c, toK _ hc⟩
  · rw [ea]; exact toK _ h2
  · obtain ⟨c, hc⟩ := hs f (hf.low (by omega))
    have d1 := hf.2 k (by omega)
    have d2 := (toK _ hc).2 k (by omega)
    have d3 : a * at_ p k ∣ c * at_ p k := by
      rw [h1]
      obtain ⟨u, hu⟩ := d1
      obtain ⟨w, hw⟩ := d2
      exact ⟨u - w, by grind⟩
    obtain ⟨e, he⟩ := Int.dvd_of_mul_dvd_mul_right (by omega) d3
    refine In.lin (a := 1) (b := e) hc h2 fun i => ⟨0, by rw [he]; grind⟩
end
end WM
end
section
namespace WM
/-! the law's ends, in plain words -/
section
variable {m : Int} {n : Nat}
theorem comb_back (hm : 0 < m) {b u : List Int} (hb : b.length = n) (hu : Vec m n u) : comb m 1 (comb m 1 b 1 u) (-1) b = u := by
  have hl : b.length = u.length := by rw [hb, hu.len]
  have hl2 : (comb m 1 b 1 u).length = b.length := comb_len hl
  refine at_ext (by rw [comb_len hl2, hl2, hl]) fun i _ => ?_
  rw [at_comb hl2, at_comb hl]
  have h := hu.at hm i
  have e : (1 * ((1 * at_ b i + 1 * at_ u i) % m) + -1 * at_ b i) % m = at_ u i % m := by
    apply mod_eq_of
    obtain ⟨z, hz⟩ := emod_cg m (1 * at_ b i + 1 * at_ u i)
    exact ⟨z, by grind⟩
  rw [e, Int.emod_eq_of_lt h.1 h.2]
theorem comb_forth (hm : 0 < m) {b x : List Int} (hb : b.length = n) (hx : Vec m n x) : comb m 1 b 1 (comb m 1 x (-1) b) = x := by
  have hl : x.length = b.length := by rw [hb, hx.len]
  have hl2 : b.length = (comb m 1 x (-1) b).length := by rw [comb_len hl, hl]
  refine at_ext (by rw [comb_len hl2, hl]) fun i _ => ?_
  rw [at_comb hl2, at_comb hl]
  have h := hx.at hm i
  have e : (1 * at_ b i + 1 * ((1 * at_ x i + -1 * at_ b i) % m)) % m = at_ x i % m := by
    apply mod_eq_of
    obtain ⟨z, hz⟩ := emod_cg m (1 * at_ x i + -1 * at_ b i)
    exact ⟨z, by grind⟩
  rw [e, Int.emod_eq_of_lt h.1 h.2]
theorem nodup_mapI {α β : Type} {f : α → β} : ∀ {l : List α}, (∀ x ∈ l, ∀ y ∈ l, f x = f y → x = y) → l.Nodup → (l.map f).Nodup
  | [], _, _ => .nil
  | a :: l, h, hn => by
    rw [List.nodup_cons] at hn
    rw [List.map_cons, List.nodup_cons]
    refine ⟨fun hm => ?_, nodup_mapI (fun x hx y hy => h x (by simp [hx]) y (by simp [hy])) hn.2⟩
    obtain ⟨x, hx, e⟩ := List.mem_map.mp hm
    exact hn.1 (h x (by simp [hx]) a (by simp) e ▸ hx)
theorem comb_in {G : F → Prop} {b u : List Int} (hl : b.length = u.length) : In m G (fun i => at_ (comb m 1 b 1 u) i - at_ b i) ↔ In m G (at_ u) := by
  have h := fun i => comb_cg (m := m) (a := 1) (b := 1) hl i
  exact ⟨fun x => x.cg fun i => by
    obtain ⟨z, hz⟩ := h i
    exact ⟨-z, by grind⟩, fun x => x.cg fun i => by
    obtain ⟨z, hz⟩ := h i
    exact ⟨z, by grind⟩⟩
/-- the members of a coset, from those of the span -/
theorem coset_list (hm : 0 < m) {vs ks : List (List Int)} {b : List Int} (h : Mems m n vs ks) (hb : Vec m n b) : (ks.map fun u => comb m 1 b 1 u).Nodup ∧ ∀ x, x ∈ ks.map (fun u => comb m 1 b 1 u) ↔ Vec m n x ∧ In m (GenV vs) (fun i => at_ x i - at_ b i) := by
  refine ⟨nodup_mapI (fun x hx y hy e => ?_) h.nd, fun x => ?_⟩
  · rw [← comb_back hm hb.len (h.vec x hx), ← comb_back hm hb.len (h.vec y hy), e]
  · rw [List.mem_map]
    constructor
    · rintro ⟨u, hu, rfl⟩
      have := (h.mem u).mp hu
      exact ⟨Vec.comb hm hb.len this.1.len, (comb_in (by rw [hb.len, this.1.len])).mpr this.2⟩
    · rintro ⟨h1, h2⟩
      have hv : Vec m n (comb m 1 x (-1) b) := Vec.comb hm h1.len hb.len
      refine ⟨comb m 1 x (-1) b, (h.mem _).mpr ⟨hv, ?_⟩, comb_forth hm hb.len h1⟩
      rw [← comb_in (b := b) (by rw [hb.len, hv.len]), comb_forth hm hb.len h1]
      exact h2
theorem llt_lex {u v : List Int} (h : LLt u v) : Lex u v := by
  obtain ⟨p, x, y, s, t, rfl, rfl, hlt⟩ := h
  refine ⟨p.length, fun i hi => ?_, ?_⟩
  · unfold at_
    rw [List.getD_eq_getElem?_getD, List.getD_eq_getElem?_getD, List.getElem?_append_left hi, List.getElem?_append_left hi]
  · unfold at_
    rw [List.getD_eq_getElem?_getD, List.getD_eq_getElem?_getD, List.getElem?_append_right (Nat.le_refl _), List.getElem?_append_right (Nat.le_refl _)]
    simpa using hlt
theorem llt_irrefl {u : List Int} (h : LLt u u) : False := by
  obtain ⟨k, h1, h2⟩ := llt_lex h
  omega
theorem llt_nodup {l : List (List Int)} (h : l.Pairwise LLt) : l.Nodup := by
  refine List.Pairwise.imp (fun {a b} hl => ?_) h
  intro e
  subst e
  exact llt_irrefl hl
variable {L L' : Pv} {b : List Int}
/-- the first of the members is the base -/
theorem first_base (hm : 0 < m) (c : Cos m n L b) {l : List (List Int)} (hs : l.Pairwise LLt) (h : ∀ x, x ∈ l ↔ Mem m n L b x) : l[0]? = some b := by
  have hb := (h b).mpr c.base
  cases l with
  | nil => cases hb
  | cons y l =>
    rw [List.pairwise_cons] at hs
    rcases List.mem_cons.mp hb with e | e
    · rw [e]; rfl
    · rcases c.least hm ((h y).mp (by simp)) with z | z
      · rw [z]; rfl
      · exact (z.asymm (llt_lex (hs.1 b e))).elim
theorem same_len {α : Type} [DecidableEq α] {l l' : List α} (h : l.Nodup) (h' : l'.Nodup) (e : ∀ x, x ∈ l ↔ x ∈ l') : l.length = l'.length :=
  Nat.le_antisymm (nodup_len_le h fun x hx => (e x).mp hx) (nodup_len_le h' fun x hx => (e x).mpr hx)
theorem cos_size (hm : 0 < m) (t : Tab m n L) (hb : Vec m n b) {l : List (List Int)} (hn : l.Nodup) (h : ∀ x, x ∈ l ↔ Mem m n L b x) : (l.length : Int) = sz m L := by
  rw [← enum_len hm b t.piv.ok]
  have := same_len hn (enum_nodup hm t hb) fun x => by rw [h x, enum_mem hm t hb]; rfl
  rw [this]
theorem sz_same (hm : 0 < m) (t : Tab m n L) (t' : Tab m n L') (h : ∀ f, In m (Gen L) f ↔ In m (Gen L') f) : sz m L = sz m L' := by
  have hz : Vec m n (List.replicate n 0) := ⟨by simp, fun a ha => by rw [List.eq_of_mem_replicate ha]; omega⟩
  rw [← cos_size hm t hz (enum_nodup hm t' hz) fun x => by rw [enum_mem hm t' hz, Mem, h], enum_len hm _ t'.piv.ok]
/-- what the pairs of a walk are -/
theorem pairs_mem {N : Type} (m : Int) : ∀ (wk : List (Win N)) (ps : List (List Int × List Int)) (f : List Int), f ∈ (wk.foldl (fun ps w => pairStep m w ps) ps).map Prod.fst ↔ ∃ g, (f, g) ∈ ps ∧ ZW m wk g
  | [], ps, f => by
    rw [List.foldl_nil, List.mem_map]
    constructor
    · rintro ⟨⟨a, g⟩, h, rfl⟩; exact ⟨g, h, trivial⟩
    · rintro ⟨g, h, _⟩; exact ⟨(f, g), h, rfl⟩
  | w :: wk, ps, f => by
    rw [List.foldl_cons, pairs_mem m wk]
    unfold pairStep
    constructor
    · rintro ⟨g', hg, hz⟩
      obtain ⟨⟨a, g⟩, h1, h2⟩ := List.mem_map.mp hg
      rw [List.mem_filter] at h1
      injection h2 with e1 e2
      subst e1; subst e2
      exact ⟨g, h1.1, by simpa using h1.2, hz⟩
    · rintro ⟨g, hg, h1, h2⟩
      exact ⟨moved m w g, List.mem_map.mpr ⟨(f, g), List.mem_filter.mpr ⟨hg, by simpa using h1⟩, rfl⟩, h2⟩
theorem pairs_sub {N : Type} (m : Int) : ∀ (wk : List (Win N)) (ps : List (List Int × List Int)), ((wk.foldl (fun ps w => pairStep m w ps) ps).map Prod.fst).Sublist (ps.map Prod.fst)
  | [], ps => List.Sublist.refl _
  | w :: wk, ps => by
    rw [List.foldl_cons]
    refine (pairs_sub m wk _).trans ?_
    unfold pairStep
    rw [List.map_map]
    show ((ps.filter _).map fun p => p.1).Sublist _
    exact List.Sublist.map _ List.filter_sublist
theorem left_mem {N : Type} {wk : List (Win N)} {xs : List (List Int)} {f : List Int} : f ∈ (pairsOf m wk xs).map Prod.fst ↔ f ∈ xs ∧ ZW m wk f := by
  unfold pairsOf
  rw [pairs_mem]
  constructor
  · rintro ⟨g, h1, h2⟩
    obtain ⟨x, hx, e⟩ := List.mem_map.mp h1
    injection e with e1 e2
    subst e1; subst e2
    exact ⟨hx, h2⟩
  · rintro ⟨h1, h2⟩
    exact ⟨f, List.mem_map.mpr ⟨f, h1, rfl⟩, h2⟩
theorem left_nodup {N : Type} {wk : List (Win N)} {xs : List (List Int)} (h : xs.Nodup) : ((pairsOf m wk xs).map Prod.fst).Nodup := by
  refine (pairs_sub m wk _).nodup ?_
  rw [List.map_map]
  exact (List.map_id' xs).symm ▸ h
/-- a member of a span, by its remainders -/
theorem in_norm (hm : 0 < m) (p : Piv m n L) {f : F} (h : In m (Gen L) f) : ∃ v, Vec m n v ∧ ∀ i, m ∣ f i - at_ v i := by
  refine ⟨(List.range n).map fun i => f i % m, ⟨by simp, fun a ha => ?_⟩, fun i => ?_⟩
  · obtain ⟨i, _, rfl⟩ := List.mem_map.mp ha
    exact ⟨Int.emod_nonneg _ (by omega), Int.emod_lt_of_pos _ hm⟩
  · by_cases hi : i < n
    · have : at_ ((List.range n).map fun i => f i % m) i = f i % m := by
        unfold at_
        rw [List.getD_eq_getElem?_getD, List.getElem?_map, List.getElem?_range hi]
        rfl
      rw [this]
      obtain ⟨z, hz⟩ := emod_cg m (f i)
      exact ⟨-z, by rw [Int.mul_neg]; omega⟩
    · rw [at_out (by simp; omega), Int.sub_zero]
      refine In.all_dvd (Int.dvd_refl m) (fun g ⟨k, r, hr, e⟩ => ?_) h
      rw [e, at_out (by rw [(p.ok k r hr).len]; omega)]
      exact Int.dvd_zero m
section
variable {N : Type} {ws : List (Win N)} {p : Plan N} {mk stops : Nat} {res : List Leaf} {lf : Leaf} {vs ks lot some_ : List (List Int)} {wk : List (Win N)} {w : List Int}
/-- what is known of one leaf and its branch -/
structure OneLeaf (ws : List (Win N)) (m : Int) (n : Nat) (vs : List (List Int)) (L : Pv) (b : List Int) (p : Plan N) (mk : Nat) (lf : Leaf) (wk : List (Win N)) (some_ : List (List Int)) : Prop where
  cos : Cos m n lf.2.1 lf.2.2
  mem : ∀ x, Mem m n lf.2.1 lf.2.2 x ↔ Mem m n L b x ∧ ∃ wk, Plays ws m p mk x lf.1 wk
  span : ∀ f, In m (Gen L) f ↔ In m (GenV vs) f
  srt : some_.Pairwise LLt
  all : ∀ x, x ∈ some_ ↔ Mem m n L b x ∧ ∃ wk, Plays ws m p mk x lf.1 wk
  walk : ∀ x ∈ some_, Plays ws m p mk x lf.1 wk
theorem OneLeaf.mems (o : OneLeaf ws m n vs L b p mk lf wk some_) (x : List Int) : x ∈ some_ ↔ Mem m n lf.2.1 lf.2.2 x := by rw [o.all, o.mem]
theorem OneLeaf.size (hm : 0 < m) (o : OneLeaf ws m n vs L b p mk lf wk some_) : (some_.length : Int) = sz m lf.2.1 := cos_size hm o.cos.tab o.cos.vec (llt_nodup o.srt) o.mems
theorem OneLeaf.first (hm : 0 < m) (o : OneLeaf ws m n vs L b p mk lf wk some_) : some_[0]? = some lf.2.2 := first_base hm o.cos o.srt o.mems
/-- a difference is left by the walk just when base and difference are in the branch -/
theorem OneLeaf.diff (hm : 0 < m) (hw : ∀ w ∈ ws, WinOk m n stops w) (o : OneLeaf ws m n vs L b p mk lf wk some_) (hk : Mems m n vs ks) {f : List Int} (hf : Vec m n f) : comb m 1 lf.2.2 1 f ∈ some_ ↔ f ∈ (pairsOf m wk ks).map Prod.fst := by
  have hb0 := (o.mems lf.2.2).mpr o.cos.base
  have hp := o.walk _ hb0
  have hbm := (o.all _).mp hb0
  have hv := o.cos.vec
  have hl : lf.2.2.length = f.length := by rw [hv.len, hf.len]
  rw [o.all, left_mem, hk.mem, plays_zw hm hw hp hv hf]
  have h1 : Mem m n L b (comb m 1 lf.2.2 1 f) ↔ In m (GenV vs) (at_ f) := by
    rw [← o.span, ← comb_in (b := lf.2.2) hl]
    constructor
    · rintro ⟨_, h⟩
      exact h.sub hbm.1.2 fun i => ⟨0, by grind⟩
    · intro h
      exact ⟨Vec.comb hm hv.len hf.len, h.add hbm.1.2 fun i => ⟨0, by grind⟩⟩
  rw [h1]
  exact ⟨fun ⟨a, c⟩ => ⟨⟨hf, a⟩, c⟩, fun ⟨⟨_, a⟩, c⟩ => ⟨a, c⟩⟩
theorem OneLeaf.left (hm : 0 < m) (hw : ∀ w ∈ ws, WinOk m n stops w) (o : OneLeaf ws m n vs L b p mk lf wk some_) (hk : Mems m n vs ks) : ((pairsOf m wk ks).map Prod.fst).length = some_.length := by
  have hv := o.cos.vec
  have vl : ∀ f ∈ (pairsOf m wk ks).map Prod.fst, Vec m n f := fun f hf => hk.vec f (left_mem.mp hf).1
  have vs_ : ∀ x ∈ some_, Vec m n x := fun x hx => ((o.all x).mp hx).1.1
  refine Nat.le_antisymm ?_ ?_
  · have := nodup_len_le (l := ((pairsOf m wk ks).map Prod.fst).map fun f => comb m 1 lf.2.2 1 f) (m := some_) (nodup_mapI (fun x hx y hy e => by rw [← comb_back hm hv.len (vl x hx), ← comb_back hm hv.len (vl y hy), e]) (left_nodup hk.nd)) fun x hx => by
      obtain ⟨f, hf, rfl⟩ := List.mem_map.mp hx
      exact (o.diff hm hw hk (vl f hf)).mpr hf
    rwa [List.length_map] at this
  · have := nodup_len_le (l := some_.map fun x => comb m 1 x (-1) lf.2.2) (m := (pairsOf m wk ks).map Prod.fst) (nodup_mapI (fun x hx y hy e => by rw [← comb_forth hm hv.len (vs_ x hx), ← comb_forth hm hv.len (vs_ y hy), e]) (llt_nodup o.srt)) fun y hy => by
      obtain ⟨x, hx, rfl⟩ := List.mem_map.mp hy
      have hf : Vec m n (comb m 1 x (-1) lf.2.2) := Vec.comb hm (vs_ x hx).len hv.len
      rw [← o.diff hm hw hk hf, comb_forth hm hv.len (vs_ x hx)]
      exact hx
    rwa [List.length_map] at this
theorem OneLeaf.known (hm : 0 < m) (hw : ∀ w ∈ ws, WinOk m n stops w) (o : OneLeaf ws m n vs L b p mk lf wk some_) (hk : Mems m n vs ks) (w : List Int) : known m lf.2.1 w = gcdL m (((pairsOf m wk ks).map Prod.fst).map fun f => dot w (at_ f) % m) := by
  have hv := o.cos.vec
  obtain ⟨k1, k2, k3, k4⟩ := known_spec (L := lf.2.1) hm w
  obtain ⟨g1, g2, g3, g4⟩ := gcdL_spec (((pairsOf m wk ks).map Prod.fst).map fun f => dot w (at_ f) % m) m hm
  have key : ∀ f, Vec m n f → (f ∈ (pairsOf m wk ks).map Prod.fst ↔ In m (Gen lf.2.1) (at_ f)) := fun f hf => by
    rw [← o.diff hm hw hk hf, o.mems, Mem, comb_in (by rw [hv.len, hf.len])]
    exact ⟨fun h => h.2, fun h => ⟨Vec.comb hm hv.len hf.len, h⟩⟩
  refine gcd_uniq k1 g1 (g4 _ k2 fun v hv' => ?_) (k4 _ g2 fun f hf => ?_)
  · obtain ⟨f, hf, rfl⟩ := List.mem_map.mp hv'
    have h1 := k3 _ ((key f (hk.vec f (left_mem.mp hf).1)).mp hf)
    have h2 := Int.dvd_trans k2 (emod_cg m (dot w (at_ f)))
    exact dvd_of_sub h2 h1
  · obtain ⟨v, h1, h2⟩ := in_norm hm o.cos.tab.piv hf
    have h3 : v ∈ (pairsOf m wk ks).map Prod.fst := (key v h1).mpr (hf.cg fun i => by
      obtain ⟨z, hz⟩ := h2 i
      exact ⟨-z, by rw [Int.mul_neg]; omega⟩)
    have h4 := g3 _ (List.mem_map.mpr ⟨v, h3, rfl⟩)
    have h5 := Int.dvd_trans g2 (emod_cg m (dot w (at_ v)))
    have h6 := Int.dvd_trans g2 (dot_cg w h2)
    have h7 : gcdL m (((pairsOf m wk ks).map Prod.fst).map fun f => dot w (at_ f) % m) ∣ dot w (at_ v) := by
      have := Int.dvd_sub h4 h5
      rwa [show dot w (at_ v) % m - (dot w (at_ v) % m - dot w (at_ v)) = dot w (at_ v) by omega] at this
    exact dvd_of_sub h6 h7
/-- the keys in their order are the leaves' readings -/
theorem sorted_uniq {l l' : List (List Int)} (h : l.Pairwise LLt) (hp : l'.Perm l) (h' : l'.Pairwise fun a b => ¬ LLt b a) : l' = l := by
  refine List.Perm.eq_of_pairwise (le := fun a b => ¬ LLt b a) (fun a b ha hb h1 h2 => ?_) h' (h.imp fun {a b} hl hl' => (llt_lex hl).asymm (llt_lex hl')) hp
  have ha' := hp.mem_iff.mp ha
  by_cases e : a = b
  · exact e
  · have : LLt a b ∨ LLt b a := by
      clear hp h' ha h1 h2
      induction l with
      | nil => cases hb
      | cons c l ih =>
        rw [List.pairwise_cons] at h
        rcases List.mem_cons.mp ha' with x | x <;> rcases List.mem_cons.mp hb with y | y
        · exact absurd (x.trans y.symm) e
        · rw [x]; exact .inl (h.1 b y)
        · rw [y]; exact .inr (h.1 a x)
        · exact ih h.2 y x
    rcases this with z | z
    · exact absurd z h2
    · exact absurd z h1
/-- the leaves' sizes add up -/
theorem sum_sizes (hm : 0 < m) (t : Cos m n L b) (l : Leaves ws m n L b p mk res) : (res.map fun lf => sz m lf.2.1).sum = sz m L := by
  have hlen : ∀ r : List Leaf, (∀ lf ∈ r, Cos m n lf.2.1 lf.2.2) → ((r.flatMap fun lf => enum m lf.2.1 lf.2.2).length : Int) = (r.map fun lf => sz m lf.2.1).sum := fun r => by
    induction r with
    | nil => exact fun _ => rfl
    | cons a r ih =>
      intro h
      rw [List.flatMap_cons, List.length_append, List.map_cons, List.sum_cons, ← ih fun lf hl => h lf (by simp [hl]), ← enum_len hm a.2.2 (h a (by simp)).tab.piv.ok]
      omega
  rw [← hlen res l.cos]
  refine cos_size hm t.tab t.vec ?_ fun x => ?_
  · have hs := l.srt
    have : ∀ r : List Leaf, (∀ lf ∈ r, lf ∈ res) → (r.map (·.1)).Pairwise LLt → (r.flatMap fun lf => enum m lf.2.1 lf.2.2).Nodup := fun r => by
      induction r with
      | nil => exact fun _ _ => .nil
      | cons a r ih =>
        intro hr hs
        rw [List.map_cons, List.pairwise_cons] at hs
        rw [List.flatMap_cons]
        have ca := l.cos a (hr a (by simp))
        refine List.nodup_append.mpr ⟨enum_nodup hm ca.tab ca.vec, ih (fun lf hl => hr lf (by simp [hl])) hs.2, fun x hx y hy e => ?_⟩
        subst e
        obtain ⟨c, hc, hxc⟩ := List.mem_flatMap.mp hy
        have cc := l.cos c (hr c (by simp [hc]))
        have m1 := ((l.mem a (hr a (by simp)) x).mp ((enum_mem hm ca.tab ca.vec x).mp hx)).2
        have m2 := ((l.mem c (hr c (by simp [hc])) x).mp ((enum_mem hm cc.tab cc.vec x).mp hxc)).2
        obtain ⟨k1, p1⟩ := m1
        obtain ⟨k2, p2⟩ := m2
        have := hs.1 c.1 (List.mem_map.mpr ⟨c, hc, rfl⟩)
        rw [(p1.inj p2).1] at this
        exact llt_irrefl this
    exact this res (fun _ h => h) hs
  · rw [List.mem_flatMap]
    constructor
    · rintro ⟨lf, hl, hx⟩
      have c := l.cos lf hl
      exact ((l.mem lf hl x).mp ((enum_mem hm c.tab c.vec x).mp hx)).1
    · intro hx
      obtain ⟨lf, hl, wk, hp⟩ := l.all x hx
      have c := l.cos lf hl
      exact ⟨lf, hl, (enum_mem hm c.tab c.vec x).mpr ((l.mem lf hl x).mpr ⟨hx, wk, hp⟩)⟩
end
end
end WM
end
section
namespace WM
section
variable {m : Int} {n : Nat} {vs : List (List Int)}
/-- a row of the table less a multiple of a later one -/
def redRow (m : Int) (j : Nat) (t : Int) (p q : List Int) : List Int := (List.zipWith (fun a b => a - t * b) p q).take (j + 1) ++ ((List.zipWith (fun a b => a - t * b) p q).drop (j + 1)).map fun a => a % m
theorem at_zip {t : Int} {p q : List Int} (h : p.length = q.length) (i : Nat) : at_ (List.zipWith (fun a b => a - t * b) p q) i = at_ p i - t * at_ q i := by
  unfold at_
  rw [List.getD_eq_getElem?_getD, List.getD_eq_getElem?_getD, List.getD_eq_getElem?_getD, List.getElem?_zipWith]
  by_cases hi : i < p.length
  · rw [List.getElem?_eq_getElem hi, List.getElem?_eq_getElem (by omega)]
    rfl
  · rw [List.getElem?_eq_none (by omega), List.getElem?_eq_none (by omega)]
    simp
theorem redRow_len {t : Int} {j : Nat} {p q : List Int} (h : p.length = q.length) : (redRow m j t p q).length = p.length := by
  unfold redRow
  simp [h]
  omega
theorem at_redRow {t : Int} {j : Nat} {p q : List Int} (h : p.length = q.length) (hj : j < p.length) (i : Nat) : at_ (redRow m j t p q) i = if i ≤ j then at_ p i - t * at_ q i else (at_ p i - t * at_ q i) % m := by
  have hl : (List.zipWith (fun a b => a - t * b) p q).length = p.length := by simp [h]
  rw [← at_zip h i]
  unfold redRow
  generalize List.zipWith (fun a b => a - t * b) p q = r at hl
  have ht : (r.take (j + 1)).length = j + 1 := by rw [List.length_take]; omega
  unfold at_
  rw [List.getD_eq_getElem?_getD, List.getD_eq_getElem?_getD]
  by_cases hi : i ≤ j
  · rw [if_pos hi, List.getElem?_append_left (by omega), List.getElem?_take_of_lt (by omega)]
  · rw [if_neg hi, List.getElem?_append_right (by omega), List.getElem?_map, List.getElem?_drop, ht, show j + 1 + (i - (j + 1)) = i by omega]
    cases r[i]? <;> simp
theorem her_red (hm : 0 < m) {i j : Nat} {p q : List Int} (x : HR m n vs i p) (y : HR m n vs j q) (h : i < j) : HR m n vs i (redRow m j (at_ p j / at_ q j) p q) ∧ 0 ≤ at_ p j / at_ q j ∧ at_ p j / at_ q j ≤ m := by
  have hl : p.length = q.length := by rw [x.len, y.len]
  have hj : j < p.length := by rw [x.len]; exact y.lt
  have hpj := x.rng j h y.lt
  have hq := y.pos
  have hqm := Int.le_of_dvd hm y.dvd
  have t0 : 0 ≤ at_ p j / at_ q j := Int.ediv_nonneg hpj.1 (by omega)
  have t1 : at_ p j / at_ q j ≤ at_ p j := Int.ediv_le_self _ hpj.1
  refine ⟨x.red (q := q) (t := at_ p j / at_ q j) (y.mem.low (by omega)) (by rw [redRow_len hl, x.len]) (fun k hk => ?_) (fun k h1 h2 => ?_) (fun e => ?_) fun k => ?_, t0, by omega⟩
  · rw [at_redRow hl hj, if_pos (by omega), y.zer k (by omega)]
    simp
  · rw [at_redRow hl hj]
    split
    · by_cases e : k = j
      · subst e
        have a1 := Int.emod_nonneg (at_ p k) (b := at_ q k) (by omega)
        have a2 := Int.emod_lt_of_pos (at_ p k) hq
        have a3 := Int.ediv_mul_add_emod (at_ p k) (at_ q k)
        omega
      · rw [y.zer k (by omega)]
        have := x.rng k h1 h2
        simpa using this
    · exact ⟨Int.emod_nonneg _ (by omega), Int.emod_lt_of_pos _ hm⟩
  · have := small_dvd hpj (x.top e j)
    rw [this]
    simp
  · rw [at_redRow hl hj]
    split
    · exact ⟨0, by omega⟩
    · exact emod_cg m _
theorem rowAt_set {ps : List (List Int)} {i : Nat} {r : List Int} (hi : i < ps.length) (k : Nat) : rowAt (ps.set i r) k = if k = i then r else rowAt ps k := by
  unfold rowAt
  rw [List.getD_eq_getElem?_getD, List.getD_eq_getElem?_getD, List.getElem?_set]
  by_cases e : i = k
  · subst e; simp [hi]
  · rw [if_neg e, if_neg (fun h => e h.symm)]
theorem rowAt_app {ps : List (List Int)} {r : List Int} (k : Nat) : rowAt (ps ++ [r]) k = if k < ps.length then rowAt ps k else if k = ps.length then r else [] := by
  unfold rowAt
  rw [List.getD_eq_getElem?_getD, List.getD_eq_getElem?_getD, List.getElem?_append]
  split
  · rfl
  · split
    · rename_i e
      simp [e]
    · rw [List.getElem?_eq_none (by simp; omega)]
      rfl
end
end WM
end
section
namespace WM
section
variable {m : Int} {n : Nat} {N : Type} {ws : List (Win N)} {stops : Nat}
theorem plays_rng {p : Plan N} {mk : Nat} {x r : List Int} {wk : List (Win N)} (hw : ∀ w ∈ ws, WinOk m n stops w) (h : Plays ws m p mk x r wk) : (∀ a ∈ r, 0 ≤ a ∧ a < m) ∧ ∀ u ∈ wk, u ∈ ws := by
  induction h with
  | none => exact ⟨(fun _ h => nomatch h), fun _ h => nomatch h⟩
  | look h1 h2 h3 h4 ih =>
    rename_i x w _ _ _ _
    have W := hw w h1.1
    refine ⟨fun a ha => ?_, fun u hu => ?_⟩
    · rcases List.mem_cons.mp ha with e | e
      · rw [e]
        have a1 := Int.emod_nonneg (at_ x w.src) (b := w.pane) (by have := W.pane; omega)
        have a2 := Int.emod_lt_of_pos (at_ x w.src) W.pane.1
        have := W.pane.2
        omega
      · exact ih.1 a e
    · rcases List.mem_cons.mp hu with e | e
      · rw [e]; exact h1.1
      · exact ih.2 u e
theorem plays_short {p : Plan N} {mk k : Nat} (hp : PlanOk ws p mk k) : ∀ {x r : List Int} {wk : List (Win N)}, Plays ws m p mk x r wk → r.length ≤ k := by
  induction hp with
  | none =>
    intro x r wk h
    cases h
    exact Nat.zero_le _
  | look h1 h2 h3 _ ih =>
    intro x r wk h
    cases h with
    | look g1 g2 g3 g4 =>
      cases h1.inj g1
      rw [h2] at g2
      cases g2
      have := ih _ (List.mem_of_getElem? g3) g4
      rw [List.length_cons]
      omega
theorem plays_fun (hm : 0 < m) (hw : ∀ w ∈ ws, WinOk m n stops w) {p : Plan N} {mk k : Nat} (hp : PlanOk ws p mk k) : ∃ (rd : List Int → List Int) (wf : List Int → List (Win N)), ∀ x, Vec m n x → Plays ws m p mk x (rd x) (wf x) := by
  have : ∀ x : List Int, ∃ y : List Int × List (Win N), Vec m n x → Plays ws m p mk x y.1 y.2 := fun x => by
    by_cases h : Vec m n x
    · obtain ⟨r, wk, h2⟩ := plays_ex hm hw hp h
      exact ⟨(r, wk), fun _ => h2⟩
    · exact ⟨([], []), fun z => absurd z h⟩
  obtain ⟨f, hf⟩ := Classical.axiomOfChoice this
  exact ⟨fun x => (f x).1, fun x => (f x).2, hf⟩
theorem rd_iff {p : Plan N} {mk : Nat} {x r : List Int} {rd : List Int} {wk : List (Win N)} (h : Plays ws m p mk x rd wk) : rd = r ↔ ∃ wk, Plays ws m p mk x r wk :=
  ⟨fun e => ⟨wk, e ▸ h⟩, fun ⟨_, h2⟩ => (h.inj h2).1⟩
theorem plays_nil {p : Plan N} {mk : Nat} {x : List Int} {wk : List (Win N)} (h : Plays ws m p mk x [] wk) {y r : List Int} {wk' : List (Win N)} (h' : Plays ws m p mk y r wk') : r = [] := by
  cases h with
  | none => cases h'; rfl
theorem perm_nd {l l' : List (List Int)} (h : l.Nodup) (h' : l'.Nodup) (e : ∀ x, x ∈ l ↔ x ∈ l') : l.Perm l' := by
  induction l generalizing l' with
  | nil =>
    cases l' with
    | nil => exact .refl _
    | cons a _ => exact absurd ((e a).mpr (by simp)) (by simp)
  | cons a l ih =>
    rw [List.nodup_cons] at h
    have ha := (e a).mp (by simp)
    refine List.Perm.trans (List.Perm.cons a (ih (l' := l'.erase a) h.2 (h'.erase a) fun x => ?_)) (List.perm_cons_erase ha).symm
    constructor
    · intro hx
      exact (List.mem_erase_of_ne (show x ≠ a from fun z => h.1 (by rw [← z]; exact hx))).mpr ((e x).mp (by simp [hx]))
    · intro hx
      have hne : x ≠ a := fun z => by
        subst z
        exact (List.Nodup.not_mem_erase h') hx
      have := (e x).mpr (List.mem_of_mem_erase hx)
      rcases List.mem_cons.mp this with z | z
      · exact absurd z hne
      · exact z
theorem nd_one {l : List (List Int)} (h : l.Nodup) (e : ∀ x ∈ l, x = []) : l.length ≤ 1 := by
  match l, h, e with
  | [], _, _ => simp
  | [_], _, _ => simp
  | a :: b :: l, h, e =>
    rw [List.nodup_cons] at h
    exact absurd (by rw [e a (by simp), e b (by simp)]; simp) h.1
end
end WM
end
section
set_option Elab.async false
set_option linter.all false
set_option maxRecDepth 100000
set_option maxHeartbeats 0
namespace HeadW
open PySem PySem.Spec PyProof.Rows L2
def topS (i : Nat) : Stmt := PySem.Challenge.pw_shywheels_k66_whole_plans_played.main.body.getD i (.Pass ⟨0, 0, 0, 0⟩)
abbrev R : PySem.W.OpenRow := PySem.W.OpenLaw.row PySem.Challenge.rw_shywheels_k66_whole_plans_played
def d_BadPlan_init : He.DefD := ⟨("BadPlan", some "__init__"), "__init__", "BadPlan.__init__", defArgs (inClass (topS 7) 0), defBody (inClass (topS 7) 0), defScope (inClass (topS 7) 0), [], []⟩
def d_is_integer : He.DefD := ⟨("is_integer", none), "is_integer", "is_integer", defArgs (topS 15), defBody (topS 15), defScope (topS 15), [], []⟩
def d_is_between : He.DefD := ⟨("is_between", none), "is_between", "is_between", defArgs (topS 16), defBody (topS 16), defScope (topS 16), [], []⟩
def d_is_name : He.DefD := ⟨("is_name", none), "is_name", "is_name", defArgs (topS 17), defBody (topS 17), defScope (topS 17), [], []⟩
def d_is_modulus : He.DefD := ⟨("is_modulus", none), "is_modulus", "is_modulus", defArgs (topS 18), defBody (topS 18), defScope (topS 18), [], []⟩
def d_is_width : He.DefD := ⟨("is_width", none), "is_width", "is_width", defArgs (topS 19), defBody (topS 19), defScope (topS 19), [], []⟩
def d_is_vector : He.DefD := ⟨("is_vector", none), "is_vector", "is_vector", defArgs (topS 20), defBody (topS 20), defScope (topS 20), [], []⟩
def d_bezout : He.DefD := ⟨("bezout", none), "bezout", "bezout", defArgs (topS 22), defBody (topS 22), defScope (topS 22), [], []⟩
def d_content : He.DefD := ⟨("content", none), "content", "content", defArgs (topS 23), defBody (topS 23), defScope (topS 23), [], []⟩
def d_normalizer : He.DefD := ⟨("normalizer", none), "normalizer", "normalizer", defArgs (topS 24), defBody (topS 24), defScope (topS 24), [], []⟩
def d_invert : He.DefD := ⟨("invert", none), "invert", "invert", defArgs (topS 25), defBody (topS 25), defScope (topS 25), [], []⟩
def d_product : He.DefD := ⟨("product", none), "product", "product", defArgs (topS 26), defBody (topS 26), defScope (topS 26), [], []⟩
def d_plus_multiple : He.DefD := ⟨("plus_multiple", none), "plus_multiple", "plus_multiple", defArgs (topS 27), defBody (topS 27), defScope (topS 27), [], []⟩
def d_combine : He.DefD := ⟨("combine", none), "combine", "combine", defArgs (topS 30), defBody (topS 30), defScope (topS 30), [], []⟩
def d_lead_within : He.DefD := ⟨("lead_within", none), "lead_within", "lead_within", defArgs (topS 32), defBody (topS 32), defScope (topS 32), [], []⟩
def d_insert : He.DefD := ⟨("insert", none), "insert", "insert", defArgs (topS 33), defBody (topS 33), defScope (topS 33), [], []⟩
def d_pivots_of : He.DefD := ⟨("pivots_of", none), "pivots_of", "pivots_of", defArgs (topS 34), defBody (topS 34), defScope (topS 34), [], []⟩
def d_reduced_by : He.DefD := ⟨("reduced_by", none), "reduced_by", "reduced_by", defArgs (topS 35), defBody (topS 35), defScope (topS 35), [], []⟩
def d_table_of : He.DefD := ⟨("table_of", none), "table_of", "table_of", defArgs (topS 36), defBody (topS 36), defScope (topS 36), [], []⟩
def d_Span_init : He.DefD := ⟨("Span", some "__init__"), "__init__", "Span.__init__", defArgs (inClass (topS 37) 0), defBody (inClass (topS 37) 0), defScope (inClass (topS 37) 0), [], []⟩
def d_Span_modulus : He.DefD := ⟨("Span", some "modulus"), "modulus", "Span.modulus", defArgs (inClass (topS 37) 3), defBody (inClass (topS 37) 3), defScope (inClass (topS 37) 3), [], []⟩
def d_Span_width : He.DefD := ⟨("Span", some "width"), "width", "Span.width", defArgs (inClass (topS 37) 4), defBody (inClass (topS 37) 4), defScope (inClass (topS 37) 4), [], []⟩
def d_Span_table : He.DefD := ⟨("Span", some "table"), "table", "Span.table", defArgs (inClass (topS 37) 5), defBody (inClass (topS 37) 5), defScope (inClass (topS 37) 5), [], []⟩
def d_Span_size : He.DefD := ⟨("Span", some "size"), "size", "Span.size", defArgs (inClass (topS 37) 6), defBody (inClass (topS 37) 6), defScope (inClass (topS 37) 6), [], []⟩
def d_Span_least : He.DefD := ⟨("Span", some "least"), "least", "Span.least", defArgs (inClass (topS 37) 7), defBody (inClass (topS 37) 7), defScope (inClass (topS 37) 7), [], []⟩
def d_Span_contains : He.DefD := ⟨("Span", some "contains"), "contains", "Span.contains", defArgs (inClass (topS 37) 8), defBody (inClass (topS 37) 8), defScope (inClass (topS 37) 8), [], []⟩
def d_Span_restricted : He.DefD := ⟨("Span", some "restricted"), "restricted", "Span.restricted", defArgs (inClass (topS 37) 14), defBody (inClass (topS 37) 14), defScope (inClass (topS 37) 14), [], []⟩
def d_unit_vectors : He.DefD := ⟨("unit_vectors", none), "unit_vectors", "unit_vectors", defArgs (topS 38), defBody (topS 38), defScope (topS 38), [], []⟩
def d_Coset_init : He.DefD := ⟨("Coset", some "__init__"), "__init__", "Coset.__init__", defArgs (inClass (topS 40) 0), defBody (inClass (topS 40) 0), defScope (inClass (topS 40) 0), [], []⟩
def d_Coset_base : He.DefD := ⟨("Coset", some "base"), "base", "Coset.base", defArgs (inClass (topS 40) 2), defBody (inClass (topS 40) 2), defScope (inClass (topS 40) 2), [], []⟩
def d_Coset_span : He.DefD := ⟨("Coset", some "span"), "span", "Coset.span", defArgs (inClass (topS 40) 3), defBody (inClass (topS 40) 3), defScope (inClass (topS 40) 3), [], []⟩
def d_Coset_size : He.DefD := ⟨("Coset", some "size"), "size", "Coset.size", defArgs (inClass (topS 40) 4), defBody (inClass (topS 40) 4), defScope (inClass (topS 40) 4), [], []⟩
def d_Coset_contains : He.DefD := ⟨("Coset", some "contains"), "contains", "Coset.contains", defArgs (inClass (topS 40) 5), defBody (inClass (topS 40) 5), defScope (inClass (topS 40) 5), [], []⟩
def d_Coset_known : He.DefD := ⟨("Coset", some "known"), "known", "Coset.known", defArgs (inClass (topS 40) 8), defBody (inClass (topS 40) 8), defScope (inClass (topS 40) 8), [], []⟩
def d_Coset_step_towards : He.DefD := ⟨("Coset", some "step_towards"), "step_towards", "Coset.step_towards", defArgs (inClass (topS 40) 9), defBody (inClass (topS 40) 9), defScope (inClass (topS 40) 9), [], []⟩
def d_Coset_restricted : He.DefD := ⟨("Coset", some "restricted"), "restricted", "Coset.restricted", defArgs (inClass (topS 40) 10), defBody (inClass (topS 40) 10), defScope (inClass (topS 40) 10), [], []⟩
def d_window_named : He.DefD := ⟨("window_named", none), "window_named", "window_named", defArgs (topS 42), defBody (topS 42), defScope (topS 42), [], []⟩
def d_part_window : He.DefD := ⟨("part_window", none), "part_window", "part_window", defArgs (topS 45), defBody (topS 45), defScope (topS 45), [], []⟩
def d_check_part : He.DefD := ⟨("check_part", none), "check_part", "check_part", defArgs (topS 46), defBody (topS 46), defScope (topS 46), [], []⟩
def d_branches : He.DefD := ⟨("branches", none), "branches", "branches", defArgs (topS 47), defBody (topS 47), defScope (topS 47), [], []⟩
def d_leaves : He.DefD := ⟨("leaves", none), "leaves", "leaves", defArgs (topS 48), defBody (topS 48), defScope (topS 48), [], []⟩
def d_are_moves : He.DefD := ⟨("are_moves", none), "are_moves", "are_moves", defArgs (topS 53), defBody (topS 53), defScope (topS 53), [], []⟩
def d_is_window : He.DefD := ⟨("is_window", none), "is_window", "is_window", defArgs (topS 54), defBody (topS 54), defScope (topS 54), [], []⟩
def d_Cabinet_init : He.DefD := ⟨("Cabinet", some "__init__"), "__init__", "Cabinet.__init__", defArgs (inClass (topS 55) 0), defBody (inClass (topS 55) 0), defScope (inClass (topS 55) 0), [], [("marks", .int 1)]⟩
def d_Cabinet_modulus : He.DefD := ⟨("Cabinet", some "modulus"), "modulus", "Cabinet.modulus", defArgs (inClass (topS 55) 1), defBody (inClass (topS 55) 1), defScope (inClass (topS 55) 1), [], []⟩
def d_Cabinet_wheels : He.DefD := ⟨("Cabinet", some "wheels"), "wheels", "Cabinet.wheels", defArgs (inClass (topS 55) 2), defBody (inClass (topS 55) 2), defScope (inClass (topS 55) 2), [], []⟩
def d_Cabinet_windows : He.DefD := ⟨("Cabinet", some "windows"), "windows", "Cabinet.windows", defArgs (inClass (topS 55) 4), defBody (inClass (topS 55) 4), defScope (inClass (topS 55) 4), [], []⟩
def d_law_bag : He.DefD := ⟨("_law_bag", none), "_law_bag", "_law_bag", defArgs (topS 57), defBody (topS 57), defScope (topS 57), [], []⟩
def d_law_take : He.DefD := ⟨("_law_take", none), "_law_take", "_law_take", defArgs (topS 58), defBody (topS 58), defScope (topS 58), [], []⟩
def d_law_alike : He.DefD := ⟨("_law_alike", none), "_law_alike", "_law_alike", defArgs (topS 59), defBody (topS 59), defScope (topS 59), [], []⟩
def d_law_names : He.DefD := ⟨("_law_names", none), "_law_names", "_law_names", defArgs (topS 60), defBody (topS 60), defScope (topS 60), [], []⟩
def d_law_divisors : He.DefD := ⟨("_law_divisors", none), "_law_divisors", "_law_divisors", defArgs (topS 61), defBody (topS 61), defScope (topS 61), [], []⟩
def d_law_windows : He.DefD := ⟨("_law_windows", none), "_law_windows", "_law_windows", defArgs (topS 62), defBody (topS 62), defScope (topS 62), [], []⟩
def d_law_small : He.DefD := ⟨("_law_small", none), "_law_small", "_law_small", defArgs (topS 63), defBody (topS 63), defScope (topS 63), [], []⟩
def d_law_vector : He.DefD := ⟨("_law_vector", none), "_law_vector", "_law_vector", defArgs (topS 64), defBody (topS 64), defScope (topS 64), [], []⟩
def d_law_look : He.DefD := ⟨("_law_look", none), "_law_look", "_law_look", defArgs (topS 65), defBody (topS 65), defScope (topS 65), [], []⟩
def d_law_product : He.DefD := ⟨("_law_product", none), "_law_product", "_law_product", defArgs (topS 66), defBody (topS 66), defScope (topS 66), [], []⟩
def d_law_vectors : He.DefD := ⟨("_law_vectors", none), "_law_vectors", "_law_vectors", defArgs (topS 67), defBody (topS 67), defScope (topS 67), [], []⟩
def d_law_members : He.DefD := ⟨("_law_members", none), "_law_members", "_law_members", defArgs (topS 68), defBody (topS 68), defScope (topS 68), [], []⟩
def d_law_cabinet : He.DefD := ⟨("_law_cabinet", none), "_law_cabinet", "_law_cabinet", defArgs (topS 69), defBody (topS 69), defScope (topS 69), [], []⟩
def d_law_moved : He.DefD := ⟨("_law_moved", none), "_law_moved", "_law_moved", defArgs (topS 70), defBody (topS 70), defScope (topS 70), [], []⟩
def d_law_unknown_span : He.DefD := ⟨("_law_unknown_span", none), "_law_unknown_span", "_law_unknown_span", defArgs (topS 71), defBody (topS 71), defScope (topS 71), [], []⟩
def d_law_gcd : He.DefD := ⟨("_law_gcd", none), "_law_gcd", "_law_gcd", defArgs (topS 72), defBody (topS 72), defScope (topS 72), [], []⟩
def d_law_great : He.DefD := ⟨("_law_great", none), "_law_great", "_law_great", defArgs (topS 73), defBody (topS 73), defScope (topS 73), [], []⟩
def d_law_great_cabinet : He.DefD := ⟨("_law_great_cabinet", none), "_law_great_cabinet", "_law_great_cabinet", defArgs (topS 74), defBody (topS 74), defScope (topS 74), [], []⟩
def d_law_hermite : He.DefD := ⟨("_law_hermite", none), "_law_hermite", "_law_hermite", defArgs (topS 75), defBody (topS 75), defScope (topS 75), [], []⟩
def d_law_reduced : He.DefD := ⟨("_law_reduced", none), "_law_reduced", "_law_reduced", defArgs (topS 76), defBody (topS 76), defScope (topS 76), [], []⟩
def d_law_size : He.DefD := ⟨("_law_size", none), "_law_size", "_law_size", defArgs (topS 77), defBody (topS 77), defScope (topS 77), [], []⟩
def d_law_coset : He.DefD := ⟨("_law_coset", none), "_law_coset", "_law_coset", defArgs (topS 78), defBody (topS 78), defScope (topS 78), [], []⟩
def d_law_plan : He.DefD := ⟨("_law_plan", none), "_law_plan", "_law_plan", defArgs (topS 79), defBody (topS 79), defScope (topS 79), [], []⟩
def d_law_played : He.DefD := ⟨("_law_played", none), "_law_played", "_law_played", defArgs (topS 80), defBody (topS 80), defScope (topS 80), [], []⟩
def d_law_first_left : He.DefD := ⟨("_law_first_left", none), "_law_first_left", "_law_first_left", defArgs (topS 81), defBody (topS 81), defScope (topS 81), [], []⟩
def d_law_divisor : He.DefD := ⟨("_law_divisor", none), "_law_divisor", "_law_divisor", defArgs (topS 82), defBody (topS 82), defScope (topS 82), [], []⟩
def d_law_leaf_right : He.DefD := ⟨("_law_leaf_right", none), "_law_leaf_right", "_law_leaf_right", defArgs (topS 83), defBody (topS 83), defScope (topS 83), [], []⟩
def d_law_are_leaves : He.DefD := ⟨("_law_are_leaves", none), "_law_are_leaves", "_law_are_leaves", defArgs (topS 84), defBody (topS 84), defScope (topS 84), [], []⟩
def d_law_is_refused : He.DefD := ⟨("_law_is_refused", none), "_law_is_refused", "_law_is_refused", defArgs (topS 85), defBody (topS 85), defScope (topS 85), [], []⟩
def d_law_leaves_right : He.DefD := ⟨("_law_leaves_right", none), "_law_leaves_right", "_law_leaves_right", defArgs (topS 86), defBody (topS 86), defScope (topS 86), [], []⟩
def d_law_small_right : He.DefD := ⟨("_law_small_right", none), "_law_small_right", "_law_small_right", defArgs (topS 87), defBody (topS 87), defScope (topS 87), [], []⟩
def d_law_within : He.DefD := ⟨("_law_within", none), "_law_within", "_law_within", defArgs (topS 88), defBody (topS 88), defScope (topS 88), [], []⟩
def d_law_great_leaf_right : He.DefD := ⟨("_law_great_leaf_right", none), "_law_great_leaf_right", "_law_great_leaf_right", defArgs (topS 89), defBody (topS 89), defScope (topS 89), [], []⟩
def d_law_great_right : He.DefD := ⟨("_law_great_right", none), "_law_great_right", "_law_great_right", defArgs (topS 90), defBody (topS 90), defScope (topS 90), [], []⟩
def d_law : He.DefD := ⟨("law", none), "law", "law", defArgs (topS 91), defBody (topS 91), defScope (topS 91), [], []⟩
def fn0 : List He.DefD := [d_BadPlan_init, d_is_integer, d_is_between, d_is_name, d_is_modulus, d_is_width, d_is_vector, d_bezout, d_content, d_normalizer, d_invert, d_product, d_plus_multiple, d_combine, d_lead_within, d_insert, d_pivots_of, d_reduced_by, d_table_of, d_Span_init, d_Span_modulus, d_Span_width, d_Span_table, d_Span_size, d_Span_least, d_Span_contains, d_Span_restricted, d_unit_vectors, d_Coset_init, d_Coset_base]
def fn1 : List He.DefD := [d_Coset_span, d_Coset_size, d_Coset_contains, d_Coset_known, d_Coset_step_towards, d_Coset_restricted, d_window_named, d_part_window, d_check_part, d_branches, d_leaves, d_are_moves, d_is_window, d_Cabinet_init, d_Cabinet_modulus, d_Cabinet_wheels, d_Cabinet_windows, d_law_bag, d_law_take, d_law_alike, d_law_names, d_law_divisors, d_law_windows, d_law_small, d_law_vector, d_law_look, d_law_product, d_law_vectors, d_law_members, d_law_cabinet]
def fn2 : List He.DefD := [d_law_moved, d_law_unknown_span, d_law_gcd, d_law_great, d_law_great_cabinet, d_law_hermite, d_law_reduced, d_law_size, d_law_coset, d_law_plan, d_law_played, d_law_first_left, d_law_divisor, d_law_leaf_right, d_law_are_leaves, d_law_is_refused, d_law_leaves_right, d_law_small_right, d_law_within, d_law_great_leaf_right, d_law_great_right, d_law]
def fn : List He.DefD := fn0 ++ fn1 ++ fn2
def fa0 : List He.Fa := [.glo "WheelError", .glo "Wrong", .glo "NotUnit", .glo "NoNumber", .glo "BadWindow", .glo "BadPlan", .noat "BadPlan" "readings", .glo "Unlike", .glo "is_integer", .glo "is_between", .glo "is_name", .glo "is_modulus", .glo "is_width", .glo "is_vector", .glo "bezout", .glo "content", .glo "normalizer", .glo "invert", .glo "product", .glo "plus_multiple", .glo "combine", .glo "lead_within", .glo "insert", .glo "pivots_of", .glo "reduced_by", .glo "table_of", .glo "Span", .cls "Span", .mkr "Span", .noat "Span" "kept_modulus"]
def fa1 : List He.Fa := [.noat "Span" "kept_width", .noat "Span" "kept_table", .noat "Span" "rows", .meth "Span" "modulus", .meth "Span" "width", .meth "Span" "table", .meth "Span" "size", .meth "Span" "least", .meth "Span" "contains", .meth "Span" "restricted", .glo "unit_vectors", .glo "Coset", .cls "Coset", .mkr "Coset", .noat "Coset" "differences", .noat "Coset" "least_member", .meth "Coset" "base", .meth "Coset" "span", .meth "Coset" "size", .meth "Coset" "contains", .meth "Coset" "known", .meth "Coset" "step_towards", .meth "Coset" "restricted", .glo "window_named", .glo "part_window", .glo "check_part", .glo "branches", .glo "leaves", .glo "are_moves", .glo "is_window"]
def fa2 : List He.Fa := [.glo "Cabinet", .cls "Cabinet", .mkr "Cabinet", .noat "Cabinet" "own_modulus", .noat "Cabinet" "wheel_count", .noat "Cabinet" "mark_count", .noat "Cabinet" "window_list", .meth "Cabinet" "modulus", .meth "Cabinet" "wheels", .meth "Cabinet" "windows", .glo "_law_bag", .glo "_law_take", .glo "_law_alike", .glo "_law_names", .glo "_law_divisors", .glo "_law_windows", .glo "_law_small", .glo "_law_vector", .glo "_law_look", .glo "_law_product", .glo "_law_vectors", .glo "_law_members", .glo "_law_cabinet", .glo "_law_moved", .glo "_law_unknown_span", .glo "_law_gcd", .glo "_law_great", .glo "_law_great_cabinet", .glo "_law_hermite", .glo "_law_reduced"]
def fa3 : List He.Fa := [.glo "_law_size", .glo "_law_coset", .glo "_law_plan", .glo "_law_played", .glo "_law_first_left", .glo "_law_divisor", .glo "_law_leaf_right", .glo "_law_are_leaves", .glo "_law_is_refused", .glo "_law_leaves_right", .glo "_law_small_right", .glo "_law_within", .glo "_law_great_leaf_right", .glo "_law_great_right", .glo "law", .int "LONGEST_NAME" 8, .int "LEAST_MODULUS" 2, .int "GREATEST_MODULUS" 60, .int "GREATEST_WIDTH" 12, .int "MAX_VECTORS" 500, .int "MAX_LOOKS" 3, .int "MOST_WHEELS" 6, .int "MOST_MARKS" 4, .int "MOST_WINDOWS" 8, .str "LETTERS" "abcdefghijklmnopqrstuvwxyz", .free "isinstance", .free "int", .free "bool", .free "str", .free "len"]
def fa4 : List He.Fa := [.free "all", .free "tuple", .free "list", .free "zip", .free "sum", .free "range", .free "sorted", .free "abs", .free "enumerate", .free "dict", .free "set", .free "repr", .free "ValueError"]
def fa : List He.Fa := fa0 ++ fa1 ++ fa2 ++ fa3 ++ fa4
def names0 : List PySem.Str := ["_wall", "__name__", "WheelError", "Wrong", "NotUnit", "NoNumber", "BadWindow", "BadPlan", "Unlike", "LETTERS", "LONGEST_NAME", "LEAST_MODULUS", "GREATEST_MODULUS", "GREATEST_WIDTH", "is_integer", "is_between", "is_name", "is_modulus", "is_width", "is_vector", "bezout", "content", "normalizer", "invert", "product", "plus_multiple", "MAX_VECTORS", "combine", "image_of", "lead_within"]
def names1 : List PySem.Str := ["insert", "pivots_of", "reduced_by", "table_of", "Span", "unit_vectors", "Coset", "window_named", "MAX_LOOKS", "part_window", "check_part", "branches", "leaves", "MOST_WHEELS", "MOST_MARKS", "MOST_WINDOWS", "are_moves", "is_window", "Cabinet", "_law_bag", "_law_take", "_law_alike", "_law_names", "_law_divisors", "_law_windows", "_law_small", "_law_vector", "_law_look", "_law_product", "_law_vectors"]
def names2 : List PySem.Str := ["_law_members", "_law_cabinet", "_law_moved", "_law_unknown_span", "_law_gcd", "_law_great", "_law_great_cabinet", "_law_hermite", "_law_reduced", "_law_size", "_law_coset", "_law_plan", "_law_played", "_law_first_left", "_law_divisor", "_law_leaf_right", "_law_are_leaves", "_law_is_refused", "_law_leaves_right", "_law_small_right", "_law_within", "_law_great_leaf_right", "_law_great_right"]
def names : List PySem.Str := names0 ++ names1 ++ names2
/-! the part of the heap that is looked at -/
def dictRefs (o : Option Obj) : List Addr := match o with
  | some ⟨_, _, .dict es _, _⟩ => es.toList.flatMap fun e => He.refV e.val
  | _ => []
def subF (g : Addr → Option Obj) (a : Addr) : List Addr := match g a with
  | some ⟨_, _, .func fd, _⟩ => a :: (He.refV fd.code ++ He.refV fd.kwdefaults)
  | _ => []
def subA (g : Addr → Option Obj) (a : Addr) : List Addr := match g a with
  | some ⟨_, _, .func fd, _⟩ => a :: (He.refV fd.code ++ He.refV fd.kwdefaults)
  | some ⟨_, _, .cls cd, _⟩ => a :: cd.ns :: (dictRefs (g cd.ns)).flatMap (subF g)
  | _ => []
def asS (g : Addr → Option Obj) : List Addr := mainGlobals :: cStatics :: (dictRefs (g mainGlobals)).flatMap (subA g)
/-! what isinstance asks of an own class; what an own error asks -/
def insB (K : PySem.W.Frag) (x : Str) : Bool := He.eqO (PySem.W.findIn K (.ref (He.ga K x)) "__class__") (some (some (.builtin "object.__class__"))) && (He.eqO (PySem.W.specialIn K (.builtin "object.__class__") "__get__") (some (some (.builtin "getset_descriptor.__get__"))) &&
  (decide (PySem.W.takesIn K (.builtin "object.__class__") = some true) && (decide (PySem.W.mroIn K (He.ga K x) (.type "object") = some true) && decide (PySem.W.kitOne K (.ref (He.ga K x)) (.ref (He.ga K x)) = some true))))
def excB (K : PySem.W.Frag) (x : Str) : Bool := (match K.lookup (He.ga K x) with
  | some ⟨.type "type", _, .cls cd, sl⟩ => (match cd.mro, sl.toList with
    | .ref C' :: bm, [_, _, _, _, some (.builtin n), _] => C' == He.ga K x && (n == "ValueError.__new__" && (!cd.hasDel && (cd.hasDict && PySem.HandSPX.refsVE bm)))
    | _, _ => false)
  | _ => false) && (He.eqO (PySem.W.findIn K (.ref (He.ga K x)) "__setattr__") (some (some (.builtin "object.__setattr__"))) && (decide (PySem.W.subIn K (.ref (He.ga K x)) (.type "BaseException") = some true) &&
  (decide (PySem.W.typeIn K (.ref (He.ga K x)) = some (.type "type")) && (PySem.W.keepIn K (.ref (He.ga K x)) && (He.eqO (PySem.W.findIn K (.ref (He.ga K x)) "__init__") (some (some (.ref (He.ma K (He.ga K x) "__init__")))) &&
  (decide (PySem.W.typeIn K (.ref (He.ma K (He.ga K x) "__init__")) = some (.type "function")) && decide (PySem.W.exmOne K (.ref (He.ga K x)) (.ref (He.ga K x)) = some true)))))))
def werB (K : PySem.W.Frag) (x : Str) : Bool := PySem.W.readsIn K (He.ga K x) (.type "type") && (He.eqO (PySem.W.specialIn K (.ref (He.ga K x)) "__getattribute__") (some (some (.builtin "type.__getattribute__"))) &&
  (match PySem.W.findCls K (.ref (He.ga K x)) (.type "type") "__init__" with
  | some (.val (.builtin n)) => n == "ValueError.__init__"
  | _ => false))
def extra (K : PySem.W.Frag) : Bool := insB K "Span" && (excB K "BadPlan" && werB K "WheelError")
structure Says (K : PySem.W.Frag) : Prop where
  d : He.SaysD fa fn K
  x : extra K = true
def obsS (g : Addr → Option Obj) : He.AlD × Bool := (He.obsD fa fn (He.frG g (asS g)), extra (He.frG g (asS g)))
def hk : PySem.W.Hook where
  α := He.AlD × Bool
  obs := fun s => obsS s.heap.get?
  val := fun _ => (He.valD fn, true)
  says := fun _ h => ∃ K : PySem.W.Frag, K.In h ∧ Says K
  of := fun _ _ e => ⟨_, He.frG_in, ⟨congrArg (fun z : He.AlD × Bool => z.1) e, congrArg (fun z : He.AlD × Bool => z.2) e⟩⟩
  keeps := fun _ _ _ ⟨K, hK, c⟩ k => ⟨K, PySem.W.Frag.In.keeps hK k, c⟩
def ob (s : PySem.W.SharedT) : He.AlD × Bool := obsS (HandSHeadRun.getT s)
theorem ob_eq (s : PySem.W.SharedT) : ob s = hk.obs s.abs := by
  have e : HandSHeadRun.getT s = s.abs.heap.get? := funext (HandSHeadRun.getT_eq s)
  show obsS (HandSHeadRun.getT s) = obsS s.abs.heap.get?
  rw [e]
end HeadW
end
section
set_option Elab.async false
set_option linter.all false
set_option maxRecDepth 100000
set_option maxHeartbeats 0
namespace HeadW
open PySem PySem.Spec PyProof.Rows L2
theorem run (w : World) : HandSHeadRun.RunEq R (PySem.W.view R.prog [91]) hk ob 8000 names w := by
  intro os
  kernel_rfl
theorem h2 : PySem.W.opening R.prog = PySem.W.plainProg R.prog.main.scope.names := by kernel_rfl
theorem h3 : ∀ s, fenceModules? R.prog s = some s := fun s => by kernel_rfl
abbrev dLaw : DefRec := HandSHeadRun.topDef R.prog 91
theorem h4 : PySem.W.defOf (PySem.W.view R.prog [91]) R.name = some (dLaw, []) := by kernel_rfl
theorem h5 : R.prog.theDef R.name = some (dLaw.params, dLaw.body, dLaw.scope) := by kernel_rfl
theorem h6 : PySem.W.kwWritten? dLaw.params.kwonlyargs dLaw.params.kw_defaults = some [] := by kernel_rfl
theorem h8 : (PySem.W.chainsOk (PySem.W.view R.prog [91]) && PySem.W.opensWell R.prog && (PySem.W.frees R.toRowW && R.within.isEmpty)) = true := by decide +kernel
theorem h9 : R.prog.bare := ⟨rfl, rfl, rfl, rfl, rfl, by decide +kernel⟩
theorem h10 : dLaw.name = ("law" : PySem.Str) := by kernel_rfl
theorem h11 : dLaw.params.defaults = [] := by kernel_rfl
theorem h12 : fa[104]? = some (.glo "law") := by kernel_rfl
theorem hw : R.toRowW.promised := by w_witness2
end HeadW
end
section
set_option Elab.async false
set_option linter.all false
set_option maxRecDepth 100000
set_option maxHeartbeats 4000000
/-! LayA: data over the abstract heap, what stays while other things are changed, expressions that give data. -/
namespace WL
open PySem PySem.Spec PyProof.Rows L2 Evl

/-! ### what is hidden: the objects that may change -/
def hide (M : List Addr) (H : Hp) : Hp := fun a => if a ∈ M then none else H a
theorem hide_in {M : List Addr} {H : Hp} {a : Addr} (h : a ∈ M) : hide M H a = none := if_pos h
theorem hide_out {M : List Addr} {H : Hp} {a : Addr} (h : a ∉ M) : hide M H a = H a := if_neg h
theorem hide_sub (M : List Addr) (H : Hp) : Ex (hide M H) H := fun a o e => by
  by_cases h : a ∈ M
  · rw [hide_in h] at e; cases e
  · rwa [hide_out h] at e
theorem hide_mono {M : List Addr} {H H' : Hp} (e : ∀ a o, a ∉ M → H a = some o → H' a = some o) : Ex (hide M H) (hide M H') := fun a o q => by
  by_cases h : a ∈ M
  · rw [hide_in h] at q; cases q
  · rw [hide_out h] at q ⊢
    exact e a o h q
theorem hide_ex {M : List Addr} {H H' : Hp} (e : Ex H H') : Ex (hide M H) (hide M H') := hide_mono fun a o _ q => e a o q
theorem hide_less {M M' : List Addr} {H : Hp} (h : ∀ a ∈ M, a ∈ M') : Ex (hide M' H) (hide M H) := fun a o e => by
  by_cases h1 : a ∈ M'
  · rw [hide_in h1] at e; cases e
  · rw [hide_out h1] at e
    rwa [hide_out fun z => h1 (h a z)]
theorem hide_nil (H : Hp) : hide [] H = H := by
  funext a
  exact hide_out (by simp)
theorem hide_upd {M : List Addr} {H : Hp} {a : Addr} {o : HO} (h : a ∈ M) : hide M (upd H a o) = hide M H := by
  funext b
  by_cases hb : b ∈ M
  · rw [hide_in hb, hide_in hb]
  · rw [hide_out hb, hide_out hb, upd_ne fun e => hb (by rw [e]; exact h)]
/-- what may change stands in the heap -/
def MOk (M : List Addr) (H : Hp) : Prop := ∀ a ∈ M, H a ≠ none
theorem MOk.ex {M : List Addr} {H H' : Hp} (h : MOk M H) (e : Ex H H') : MOk M H' := fun a ha => by
  cases q : H a with
  | none => exact absurd q (h a ha)
  | some o => rw [e a o q]; exact Option.some_ne_none o
theorem MOk.nil (H : Hp) : MOk [] H := fun a ha => nomatch ha
theorem MOk.upd {M : List Addr} {H : Hp} (h : MOk M H) (a : Addr) (o : HO) : MOk M (upd H a o) := fun b hb => by
  by_cases e : b = a
  · rw [e, upd_same]; exact Option.some_ne_none o
  · rw [upd_ne e]; exact h b hb
theorem MOk.cons {M : List Addr} {H : Hp} {a : Addr} {o : HO} (h : MOk M H) (e : H a = some o) : MOk (a :: M) H := fun b hb => by
  rcases List.mem_cons.mp hb with q | q
  · rw [q, e]; exact Option.some_ne_none o
  · exact h b q
theorem MOk.new {M : List Addr} {H : Hp} (h : MOk M H) {p : Addr} (hp : H p = none) : p ∉ M := fun q => h p q hp
theorem new_ex {M : List Addr} {H : Hp} {p : Addr} {o : HO} (hp : H p = none) : Ex (hide M H) (hide M (upd H p o)) := hide_ex (Ex.new hp)

/-! ### data -/
section
variable {K : PySem.W.Frag} {H H' : Hp}
mutual
theorem dp_mono (e : Ex H H') : ∀ (d : PyData) (v : V), Dp K H v d → Dp K H' v d
  | .none, _, h => by cases h; exact .non
  | .bool b, _, h => by cases h; exact .bl b
  | .int i, _, h => by cases h; exact .int i
  | .str x, _, h => by cases h; exact .str x
  | .list ds, _, h => by
    cases h with
    | lst hs ha => exact .lst (ex_l e hs) (dpAll_mono e ds _ ha)
  | .tuple ds, _, h => by
    cases h with
    | tup hs ha => exact .tup (ex_t e hs) (dpAll_mono e ds _ ha)
  | .dict _, _, h => by cases h
theorem dpAll_mono (e : Ex H H') : ∀ (ds : List PyData) (vs : List V), DpAll K H vs ds → DpAll K H' vs ds
  | [], _, h => by cases h; exact .nil
  | d :: ds, _, h => by
    cases h with
    | cons h1 h2 => exact .cons (dp_mono e d _ h1) (dpAll_mono e ds _ h2)
end
theorem _root_.L2.Dp.mono {v : V} {d : PyData} (h : Dp K H v d) (e : Ex H H') : Dp K H' v d := dp_mono e d v h
theorem _root_.L2.DpAll.mono {vs : List V} {ds : List PyData} (h : DpAll K H vs ds) (e : Ex H H') : DpAll K H' vs ds := dpAll_mono e ds vs h
theorem dp_int {v : V} {i : Int} (h : Dp K H v (.int i)) : v = .int i := by cases h; rfl
theorem dp_bl {v : V} {b : Bool} (h : Dp K H v (.bool b)) : v = .bl b := by cases h; rfl
theorem dp_str {v : V} {x : Str} (h : Dp K H v (.str x)) : v = .str x := by cases h; rfl
theorem dp_non {v : V} (h : Dp K H v .none) : v = .non := by cases h; rfl
theorem dp_lst {v : V} {ds : List PyData} (h : Dp K H v (.list ds)) : ∃ a xs, v = .ref a ∧ SqL K H a xs ∧ DpAll K H xs ds := by
  cases h with
  | lst a b => exact ⟨_, _, rfl, a, b⟩
theorem dp_tup {v : V} {ds : List PyData} (h : Dp K H v (.tuple ds)) : ∃ a xs, v = .ref a ∧ SqT K H a xs ∧ DpAll K H xs ds := by
  cases h with
  | tup a b => exact ⟨_, _, rfl, a, b⟩
theorem dpAll_len : ∀ {vs : List V} {ds : List PyData}, DpAll K H vs ds → vs.length = ds.length
  | _, _, .nil => rfl
  | _, _, .cons _ h => congrArg (· + 1) (dpAll_len h)
theorem dpAll_get : ∀ {vs : List V} {ds : List PyData} {i : Nat} {d : PyData}, DpAll K H vs ds → ds[i]? = some d → ∃ v, vs[i]? = some v ∧ Dp K H v d
  | _, _, _, _, .nil, h => by simp at h
  | _, _, 0, _, .cons a _, h => by
    simp at h; subst h
    exact ⟨_, rfl, a⟩
  | _, _, i + 1, d, .cons _ b, h => by
    obtain ⟨v, h1, h2⟩ := dpAll_get (i := i) b (by simpa using h)
    exact ⟨v, by simpa using h1, h2⟩
theorem dpAll_at : ∀ {vs : List V} {ds : List PyData} {i : Nat} {v : V}, DpAll K H vs ds → vs[i]? = some v → ∃ d, ds[i]? = some d ∧ Dp K H v d
  | _, _, _, _, .nil, h => by simp at h
  | _, _, 0, _, .cons a _, h => by
    simp at h; subst h
    exact ⟨_, rfl, a⟩
  | _, _, i + 1, d, .cons _ b, h => by
    obtain ⟨v, h1, h2⟩ := dpAll_at (i := i) b (by simpa using h)
    exact ⟨v, by simpa using h1, h2⟩
theorem dpAll_app : ∀ {vs ws : List V} {ds es : List PyData}, DpAll K H vs ds → DpAll K H ws es → DpAll K H (vs ++ ws) (ds ++ es)
  | _, _, _, _, .nil, h => h
  | _, _, _, _, .cons a b, h => .cons a (dpAll_app b h)
theorem dpAll_drop : ∀ {vs : List V} {ds : List PyData} (n : Nat), DpAll K H vs ds → DpAll K H (vs.drop n) (ds.drop n)
  | _, _, 0, h => h
  | _, _, _ + 1, .nil => .nil
  | _, _, n + 1, .cons _ b => dpAll_drop n b
theorem dpAll_take : ∀ {vs : List V} {ds : List PyData} (n : Nat), DpAll K H vs ds → DpAll K H (vs.take n) (ds.take n)
  | _, _, 0, _ => .nil
  | _, _, _ + 1, .nil => .nil
  | _, _, n + 1, .cons a b => .cons a (dpAll_take n b)
theorem dpAll_set : ∀ {vs : List V} {ds : List PyData} (n : Nat) {v : V} {d : PyData}, DpAll K H vs ds → Dp K H v d → DpAll K H (vs.set n v) (ds.set n d)
  | _, _, _, _, _, .nil, _ => .nil
  | _, _, 0, _, _, .cons _ b, h => .cons h b
  | _, _, n + 1, _, _, .cons a b, h => .cons a (dpAll_set n b h)
theorem dpAll_one {v : V} {d : PyData} (h : Dp K H v d) : DpAll K H [v] [d] := .cons h .nil
/-- a list of ints -/
theorem dpAll_ints : ∀ (ns : List Int), DpAll K H (ns.map V.int) (ns.map PyData.int)
  | [] => .nil
  | n :: ns => .cons (.int n) (dpAll_ints ns)
theorem dpAll_ints_eq : ∀ {vs : List V} {ns : List Int}, DpAll K H vs (ns.map PyData.int) → vs = ns.map V.int
  | _, [], h => by cases h; rfl
  | _, n :: ns, h => by
    cases h with
    | cons a b => rw [dp_int a, dpAll_ints_eq b]; rfl
theorem dpAll_bls_eq : ∀ {vs : List V} {bs : List Bool}, DpAll K H vs (bs.map PyData.bool) → vs = bs.map V.bl
  | _, [], h => by cases h; rfl
  | _, n :: ns, h => by
    cases h with
    | cons a b => rw [dp_bl a, dpAll_bls_eq b]; rfl
theorem dpAll_strs_eq : ∀ {vs : List V} {bs : List Str}, DpAll K H vs (bs.map PyData.str) → vs = bs.map V.str
  | _, [], h => by cases h; rfl
  | _, n :: ns, h => by
    cases h with
    | cons a b => rw [dp_str a, dpAll_strs_eq b]; rfl
end
/-- a vector as data, a list of vectors -/
abbrev dV (v : List Int) : PyData := .tuple (v.map .int)
abbrev dL (vs : List (List Int)) : PyData := .list (vs.map dV)
theorem dp_vec {K : PySem.W.Frag} {H : Hp} {v : V} {ns : List Int} (h : Dp K H v (dV ns)) : ∃ a, v = .ref a ∧ SqT K H a (ns.map V.int) := by
  obtain ⟨a, xs, e, h1, h2⟩ := dp_tup h
  rw [dpAll_ints_eq h2] at h1
  exact ⟨a, e, h1⟩
theorem vec_dp {K : PySem.W.Frag} {H : Hp} {a : Addr} {ns : List Int} (h : SqT K H a (ns.map V.int)) : Dp K H (.ref a) (dV ns) := .tup h (dpAll_ints ns)

/-! ### expressions that give data -/
def ED (K : PySem.W.Frag) (M : List Addr) (te : TE) (σ : L2.St) (H : Hp) (d : PyData) : Prop :=
  MOk M H → ∀ H1, Ex H H1 → ∀ Q : VK, (∀ v H2, Ex H1 H2 → Dp K (hide M H2) v d → Q v H2) → te σ H1 Q
def ET (M : List Addr) (tt : TT) (σ : L2.St) (H : Hp) (b : Bool) : Prop := MOk M H → ∀ H1, Ex H H1 → ∀ Q : Bool → Hp → Prop, (∀ H2, Ex H1 H2 → Q b H2) → tt σ H1 Q
def EA (K : PySem.W.Frag) (M : List Addr) (ta : TA) (σ : L2.St) (H : Hp) (ds : List PyData) : Prop :=
  MOk M H → ∀ H1, Ex H H1 → ∀ Q : List V → Hp → Prop, (∀ vs H2, Ex H1 H2 → DpAll K (hide M H2) vs ds → Q vs H2) → ta σ H1 Q
def EO (to : TO) (σ : L2.St) (H : Hp) (o : Option Int) : Prop := ∀ H1, Ex H H1 → ∀ Q : Option Int → Hp → Prop, (∀ H2, Ex H1 H2 → Q o H2) → to σ H1 Q
section
variable {K : PySem.W.Frag} {M : List Addr} {σ : L2.St} {H H' : Hp} {ta tb tc te tx : TE} {t u : TT} {x y z v : V} {r : R2} {d d1 d2 d3 : PyData} {b c : Bool} {i j : Int}
theorem ED.mono (h : ED K M te σ H d) (hM : MOk M H) (e : Ex H H') : ED K M te σ H' d := fun _ H1 e1 Q q => h hM H1 (e.trans e1) Q q
theorem ED.to (h : ED K M te σ H d1) (e : d1 = d2) : ED K M te σ H d2 := e ▸ h
theorem ET.to (h : ET M t σ H b) (e : b = c) : ET M t σ H c := e ▸ h
theorem ed_var {i : Nat} (h : σ[i]? = some (some v)) (hd : Dp K (hide M H) v d) : ED K M (tVar i) σ H d := fun _ H1 e Q q => ⟨v, h, q v H1 (Ex.refl H1) (hd.mono (hide_ex e))⟩
theorem ed_int : ED K M (tC (.int i)) σ H (.int i) := fun _ H1 _ _ q => q _ H1 (Ex.refl H1) (.int i)
theorem ed_bl : ED K M (tC (.bl b)) σ H (.bool b) := fun _ H1 _ _ q => q _ H1 (Ex.refl H1) (.bl b)
theorem ed_str {x : Str} : ED K M (tC (.str x)) σ H (.str x) := fun _ H1 _ _ q => q _ H1 (Ex.refl H1) (.str x)
theorem ed_non : ED K M (tC .non) σ H .none := fun _ H1 _ _ q => q _ H1 (Ex.refl H1) .non
/-- two operands -/
theorem ed_op (ha : ED K M ta σ H d1) (hb : ED K M tb σ H d2) (hr : MOk M H → ∀ x y H1, Ex H H1 → Dp K (hide M H1) x d1 → Dp K (hide M H1) y d2 → ∀ Q : VK, (∀ v H2, Ex H1 H2 → Dp K (hide M H2) v d → Q v H2) → r x y H1 Q) :
    ED K M (tOp r ta tb) σ H d := fun hM H1 e Q q =>
  ha hM H1 e _ fun x H2 e2 h2 => hb hM H2 (e.trans e2) _ fun y H3 e3 h3 => hr hM x y H3 ((e.trans e2).trans e3) (h2.mono (hide_ex e3)) h3 Q fun v H4 e4 h4 => q v H4 ((e2.trans e3).trans e4) h4
theorem ed_un {r : V → Hp → VK → Prop} (ha : ED K M ta σ H d1) (hr : MOk M H → ∀ x H1, Ex H H1 → Dp K (hide M H1) x d1 → ∀ Q : VK, (∀ v H2, Ex H1 H2 → Dp K (hide M H2) v d → Q v H2) → r x H1 Q) : ED K M (tUn r ta) σ H d := fun hM H1 e Q q =>
  ha hM H1 e _ fun x H2 e2 h2 => hr hM x H2 (e.trans e2) h2 Q fun v H3 e3 h3 => q v H3 (e2.trans e3) h3
theorem ed_add (ha : ED K M ta σ H (.int i)) (hb : ED K M tb σ H (.int j)) : ED K M (tOp (rI0 fun i j => .int (i + j)) ta tb) σ H (.int (i + j)) :=
  ed_op ha hb fun _ x y H1 _ h1 h2 Q q => ⟨i, j, dp_int h1, dp_int h2, q _ H1 (Ex.refl H1) (.int _)⟩
theorem ed_sub (ha : ED K M ta σ H (.int i)) (hb : ED K M tb σ H (.int j)) : ED K M (tOp (rI0 fun i j => .int (i - j)) ta tb) σ H (.int (i - j)) :=
  ed_op ha hb fun _ x y H1 _ h1 h2 Q q => ⟨i, j, dp_int h1, dp_int h2, q _ H1 (Ex.refl H1) (.int _)⟩
theorem ed_mul (hc : CMul i j) (ha : ED K M ta σ H (.int i)) (hb : ED K M tb σ H (.int j)) : ED K M (tOp (rI CMul fun i j => .int (i * j)) ta tb) σ H (.int (i * j)) :=
  ed_op ha hb fun _ x y H1 _ h1 h2 Q q => ⟨i, j, dp_int h1, dp_int h2, hc, q _ H1 (Ex.refl H1) (.int _)⟩
theorem ed_fdiv (hc : CDiv i j) (ha : ED K M ta σ H (.int i)) (hb : ED K M tb σ H (.int j)) : ED K M (tOp (rI CDiv fun i j => .int (i / j)) ta tb) σ H (.int (i / j)) :=
  ed_op ha hb fun _ x y H1 _ h1 h2 Q q => ⟨i, j, dp_int h1, dp_int h2, hc, q _ H1 (Ex.refl H1) (.int _)⟩
theorem ed_mod (hc : 0 < j) (ha : ED K M ta σ H (.int i)) (hb : ED K M tb σ H (.int j)) : ED K M (tOp (rI (fun _ j => 0 < j) fun i j => .int (i % j)) ta tb) σ H (.int (i % j)) :=
  ed_op ha hb fun _ x y H1 _ h1 h2 Q q => ⟨i, j, dp_int h1, dp_int h2, hc, q _ H1 (Ex.refl H1) (.int _)⟩
theorem ed_neg (ha : ED K M ta σ H (.int i)) : ED K M (tUn (rU fun i => .int (-i)) ta) σ H (.int (-i)) :=
  ed_un ha fun _ x H1 _ h1 Q q => ⟨i, dp_int h1, q _ H1 (Ex.refl H1) (.int _)⟩
theorem ed_cmp {p : Int → Int → Bool} (ha : ED K M ta σ H (.int i)) (hb : ED K M tb σ H (.int j)) : ED K M (tOp (rI0 fun i j => .bl (p i j)) ta tb) σ H (.bool (p i j)) :=
  ed_op ha hb fun _ x y H1 _ h1 h2 Q q => ⟨i, j, dp_int h1, dp_int h2, q _ H1 (Ex.refl H1) (.bl _)⟩
theorem ed_eqI (ha : ED K M ta σ H (.int i)) (hb : ED K M tb σ H (.int j)) : ED K M (tOp rEq ta tb) σ H (.bool (decide (i = j))) :=
  ed_op ha hb fun _ x y H1 _ h1 h2 Q q => by
    rw [dp_int h1, dp_int h2]
    refine ⟨rfl, ?_⟩
    rw [dec_int, Bool.beq_eq_decide_eq]
    exact q _ H1 (Ex.refl H1) (.bl _)
theorem ed_neI (ha : ED K M ta σ H (.int i)) (hb : ED K M tb σ H (.int j)) : ED K M (tOp rNe ta tb) σ H (.bool (!decide (i = j))) :=
  ed_op ha hb fun _ x y H1 _ h1 h2 Q q => by
    rw [dp_int h1, dp_int h2]
    refine ⟨rfl, ?_⟩
    rw [dec_int, Bool.beq_eq_decide_eq]
    exact q _ H1 (Ex.refl H1) (.bl _)
theorem ed_eqS {s t : Str} (ha : ED K M ta σ H (.str s)) (hb : ED K M tb σ H (.str t)) : ED K M (tOp rEq ta tb) σ H (.bool (decide (s = t))) :=
  ed_op ha hb fun _ x y H1 _ h1 h2 Q q => by
    rw [dp_str h1, dp_str h2]
    refine ⟨rfl, ?_⟩
    have e : decide (V.str s = V.str t) = decide (s = t) := by
      by_cases q : s = t
      · rw [q]; simp
      · rw [decide_eq_false q, decide_eq_false fun z => q (V.str.inj z)]
    rw [e]
    exact q _ H1 (Ex.refl H1) (.bl _)
theorem ed_neS {s t : Str} (ha : ED K M ta σ H (.str s)) (hb : ED K M tb σ H (.str t)) : ED K M (tOp rNe ta tb) σ H (.bool (!decide (s = t))) :=
  ed_op ha hb fun _ x y H1 _ h1 h2 Q q => by
    rw [dp_str h1, dp_str h2]
    refine ⟨rfl, ?_⟩
    have e : decide (V.str s = V.str t) = decide (s = t) := by
      by_cases q : s = t
      · rw [q]; simp
      · rw [decide_eq_false q, decide_eq_false fun z => q (V.str.inj z)]
    rw [e]
    exact q _ H1 (Ex.refl H1) (.bl _)
/-- is the value None -/
def isN : PyData → Bool
  | .none => true
  | _ => false
theorem isN_dp (h : Dp K H v d) : decide (v = .non) = isN d := by
  cases h <;> rfl
theorem ed_isN (ha : ED K M ta σ H d1) : ED K M (tOp rIsN ta (tC .non)) σ H (.bool (isN d1)) :=
  ed_op ha ed_non fun _ x y H1 _ h1 h2 Q q => ⟨dp_non h2, by rw [isN_dp h1]; exact q _ H1 (Ex.refl H1) (.bl _)⟩
theorem ed_notN (ha : ED K M ta σ H d1) : ED K M (tOp rNotN ta (tC .non)) σ H (.bool (!isN d1)) :=
  ed_op ha ed_non fun _ x y H1 _ h1 h2 Q q => ⟨dp_non h2, by rw [isN_dp h1]; exact q _ H1 (Ex.refl H1) (.bl _)⟩
theorem ed_eqD (s1 : SeqAt.shaped d1 = true) (s2 : SeqAt.shaped d2 = true) (ha : ED K M ta σ H d1) (hb : ED K M tb σ H d2) : ED K M (tOp (rEqD K) ta tb) σ H (.bool (PyData.eqv d1 d2)) :=
  ed_op ha hb fun _ x y H1 _ h1 h2 Q q => ⟨d1, d2, h1.mono (hide_sub _ _), h2.mono (hide_sub _ _), s1, s2, q _ H1 (Ex.refl H1) (.bl _)⟩
theorem ed_neD (s1 : SeqAt.shaped d1 = true) (s2 : SeqAt.shaped d2 = true) (ha : ED K M ta σ H d1) (hb : ED K M tb σ H d2) : ED K M (tOp (rNeD K) ta tb) σ H (.bool (!PyData.eqv d1 d2)) :=
  ed_op ha hb fun _ x y H1 _ h1 h2 Q q => ⟨d1, d2, h1.mono (hide_sub _ _), h2.mono (hide_sub _ _), s1, s2, q _ H1 (Ex.refl H1) (.bl _)⟩
/-! items -/
theorem atI_dp {xs : List V} {ds : List PyData} (h : DpAll K H xs ds) (ha : atI ds i = some d) : ∃ v, atI xs i = some v ∧ Dp K H v d := by
  unfold atI at ha ⊢
  rw [dpAll_len h]
  cases e : ixN ds.length i with
  | none => rw [e] at ha; cases ha
  | some k =>
    rw [e] at ha
    obtain ⟨v, h1, h2⟩ := dpAll_get h ha
    exact ⟨v, h1, h2⟩
theorem ed_ixL {ds : List PyData} (hi : atI ds i = some d) (ha : ED K M ta σ H (.list ds)) (hb : ED K M tb σ H (.int i)) : ED K M (tOp (rIxL K) ta tb) σ H d :=
  ed_op ha hb fun _ x y H1 _ h1 h2 Q q => by
    obtain ⟨a, xs, e, s, h⟩ := dp_lst h1
    obtain ⟨v, ev, hv⟩ := atI_dp h hi
    exact ⟨a, xs, i, v, e, dp_int h2, ex_l (hide_sub _ _) s, ev, q _ H1 (Ex.refl H1) hv⟩
theorem ed_ixT {ds : List PyData} (hi : atI ds i = some d) (ha : ED K M ta σ H (.tuple ds)) (hb : ED K M tb σ H (.int i)) : ED K M (tOp (rIxT K) ta tb) σ H d :=
  ed_op ha hb fun _ x y H1 _ h1 h2 Q q => by
    obtain ⟨a, xs, e, s, h⟩ := dp_tup h1
    obtain ⟨v, ev, hv⟩ := atI_dp h hi
    exact ⟨a, xs, i, v, e, dp_int h2, ex_t (hide_sub _ _) s, ev, q _ H1 (Ex.refl H1) hv⟩
theorem ed_ixS {s : Str} {k : Nat} (hl : s.length ≤ sizeLine) (hi : atI s.cps.toList i = some k) (ha : ED K M ta σ H (.str s)) (hb : ED K M tb σ H (.int i)) : ED K M (tOp rIxS ta tb) σ H (.str ⟨#[k]⟩) :=
  ed_op ha hb fun _ x y H1 _ h1 h2 Q q => ⟨s, i, k, dp_str h1, dp_int h2, hl, hi, q _ H1 (Ex.refl H1) (.str _)⟩
/-! arguments, displays -/
theorem ea_nil : EA K M tNil σ H [] := fun _ H1 _ _ q => q _ H1 (Ex.refl H1) .nil
theorem ea_cons {tr : TA} {ds : List PyData} (h : ED K M te σ H d) (hr : EA K M tr σ H ds) : EA K M (tCons te tr) σ H (d :: ds) := fun hM H1 e _ q =>
  h hM H1 e _ fun v H2 e2 h2 => hr hM H2 (e.trans e2) _ fun vs H3 e3 h3 => q _ H3 (e2.trans e3) (.cons (h2.mono (hide_ex e3)) h3)
theorem sz_dp {xs : List V} {ds : List PyData} (h : DpAll K H xs ds) (hl : ds.length ≤ 100000) : xs.length ≤ sizeLine := by
  rw [dpAll_len h]; exact sz_of hl
theorem tup_new {H1 : Hp} {p : Addr} {vs : List V} {ds : List PyData} (hM : MOk M H1) (hp : H1 p = none) (h : DpAll K (hide M H1) vs ds) : Dp K (hide M (upd H1 p (.tup vs))) (.ref p) (.tuple ds) :=
  .tup (st_of (by rw [hide_out (hM.new hp)]; exact upd_same)) (h.mono (new_ex hp))
theorem lst_new {H1 : Hp} {p : Addr} {vs : List V} {ds : List PyData} (hM : MOk M H1) (hp : H1 p = none) (h : DpAll K (hide M H1) vs ds) : Dp K (hide M (upd H1 p (.lst vs))) (.ref p) (.list ds) :=
  .lst (sq_of (by rw [hide_out (hM.new hp)]; exact upd_same)) (h.mono (new_ex hp))
theorem ed_tup {ta : TA} {ds : List PyData} (hl : ds.length ≤ 100000) (h : EA K M ta σ H ds) : ED K M (tTup ta) σ H (.tuple ds) := fun hM H1 e _ q =>
  h hM H1 e _ fun vs H2 e2 h2 => ⟨sz_dp h2 hl, fun p hp => q _ _ (e2.trans (Ex.new hp)) (tup_new (hM.ex (e.trans e2)) hp h2)⟩
theorem ed_lst {ta : TA} {ds : List PyData} (hl : ds.length ≤ 100000) (h : EA K M ta σ H ds) : ED K M (tLst ta) σ H (.list ds) := fun hM H1 e _ q =>
  h hM H1 e _ fun vs H2 e2 h2 => ⟨sz_dp h2 hl, fun p hp => q _ _ (e2.trans (Ex.new hp)) (lst_new (hM.ex (e.trans e2)) hp h2)⟩
/-- a built-in's call -/
theorem ed_cb {ta : TA} {ds : List PyData} {r : List V → Hp → VK → Prop} (h : EA K M ta σ H ds) (hr : MOk M H → ∀ xs H1, Ex H H1 → DpAll K (hide M H1) xs ds → ∀ Q : VK, (∀ v H2, Ex H1 H2 → Dp K (hide M H2) v d → Q v H2) → r xs H1 Q) :
    ED K M (tCB r ta) σ H d := fun hM H1 e Q q => h hM H1 e _ fun vs H2 e2 h2 => hr hM vs H2 (e.trans e2) h2 Q fun v H3 e3 h3 => q v H3 (e2.trans e3) h3
theorem ed_and (ha : ED K M ta σ H (.bool b)) (hb : b = true → ED K M tb σ H (.bool c)) : ED K M (tAndV ta tb) σ H (.bool (b && c)) := fun hM H1 e Q q => ha hM H1 e _ fun v H2 e2 h2 => ⟨b, dp_bl h2, by
  cases b with
  | true => exact iteT (hb rfl hM H2 (e.trans e2) Q fun v H3 e3 h3 => q v H3 (e2.trans e3) h3)
  | false => exact iteF (q _ H2 e2 (.bl _))⟩
theorem ed_or (ha : ED K M ta σ H (.bool b)) (hb : b = false → ED K M tb σ H (.bool c)) : ED K M (tOrV ta tb) σ H (.bool (b || c)) := fun hM H1 e Q q => ha hM H1 e _ fun v H2 e2 h2 => ⟨b, dp_bl h2, by
  cases b with
  | true => exact iteT (q _ H2 e2 (.bl _))
  | false => exact iteF (hb rfl hM H2 (e.trans e2) Q fun v H3 e3 h3 => q v H3 (e2.trans e3) h3)⟩
theorem ed_not (ha : ED K M ta σ H (.bool b)) : ED K M (tNotV ta) σ H (.bool (!b)) := fun hM H1 e Q q => ha hM H1 e _ fun v H2 e2 h2 => ⟨b, dp_bl h2, q _ H2 e2 (.bl _)⟩
theorem ed_if (ht : ET M t σ H b) (h1 : b = true → ED K M ta σ H d) (h2 : b = false → ED K M tb σ H d) : ED K M (tIf t ta tb) σ H d := fun hM H1 e Q q => ht hM H1 e _ fun H2 e2 => by
  cases b with
  | true => exact iteT (h1 rfl hM H2 (e.trans e2) Q fun v H3 e3 h3 => q v H3 (e2.trans e3) h3)
  | false => exact iteF (h2 rfl hM H2 (e.trans e2) Q fun v H3 e3 h3 => q v H3 (e2.trans e3) h3)
theorem ed_chain {r r' : R2} (ha : ED K M ta σ H d1) (hb : ED K M tb σ H d2) (hc : ED K M tc σ H d3) (h1 : MOk M H → ∀ x y H1, Ex H H1 → Dp K (hide M H1) x d1 → Dp K (hide M H1) y d2 → ∀ Q : VK, Q (.bl b) H1 → r x y H1 Q)
    (h2 : MOk M H → ∀ x y H1, Ex H H1 → Dp K (hide M H1) x d2 → Dp K (hide M H1) y d3 → ∀ Q : VK, Q (.bl c) H1 → r' x y H1 Q) : ED K M (tChain r r' ta tb tc) σ H (.bool (b && c)) := fun hM H1 e Q q =>
  ha hM H1 e _ fun x H2 e2 g2 => hb hM H2 (e.trans e2) _ fun y H3 e3 g3 => h1 hM x y H3 ((e.trans e2).trans e3) (g2.mono (hide_ex e3)) g3 _ ⟨b, rfl, by
    cases b with
    | true => exact iteT (hc hM H3 ((e.trans e2).trans e3) _ fun z H4 e4 g4 => h2 hM y z H4 (((e.trans e2).trans e3).trans e4) (g3.mono (hide_ex e4)) g4 _ (q _ H4 ((e2.trans e3).trans e4) (.bl _)))
    | false => exact iteF (q _ H3 (e2.trans e3) (.bl _))⟩
theorem ed_leLe {k : Int} (ha : ED K M ta σ H (.int i)) (hb : ED K M tb σ H (.int j)) (hc : ED K M tc σ H (.int k)) :
    ED K M (tChain (rI0 fun i j => .bl (decide (i ≤ j))) (rI0 fun i j => .bl (decide (i ≤ j))) ta tb tc) σ H (.bool (decide (i ≤ j) && decide (j ≤ k))) :=
  ed_chain ha hb hc (fun _ x y H1 _ g1 g2 Q q => ⟨i, j, dp_int g1, dp_int g2, q⟩) (fun _ x y H1 _ g1 g2 Q q => ⟨j, k, dp_int g1, dp_int g2, q⟩)
/-! tests -/
theorem et_test (h : ED K M te σ H (.bool b)) : ET M (tTest te) σ H b := fun hM H1 e _ q => h hM H1 e _ fun v H2 e2 h2 => ⟨b, dp_bl h2, q H2 e2⟩
theorem et_B (h : ED K M te σ H (.bool b)) : ET M (tB te) σ H b := fun hM H1 e _ q => h hM H1 e _ fun v H2 e2 h2 => ⟨b, dp_bl h2, q H2 e2⟩
theorem et_and (h1 : ET M t σ H b) (h2 : b = true → ET M u σ H c) : ET M (tAnd t u) σ H (b && c) := fun hM H1 e Q q => h1 hM H1 e _ fun H2 e2 => by
  cases b with
  | true => exact iteT (h2 rfl hM H2 (e.trans e2) Q fun H3 e3 => q H3 (e2.trans e3))
  | false => exact iteF (q H2 e2)
theorem et_or (h1 : ET M t σ H b) (h2 : b = false → ET M u σ H c) : ET M (tOr t u) σ H (b || c) := fun hM H1 e Q q => h1 hM H1 e _ fun H2 e2 => by
  cases b with
  | true => exact iteT (q H2 e2)
  | false => exact iteF (h2 rfl hM H2 (e.trans e2) Q fun H3 e3 => q H3 (e2.trans e3))
theorem et_not (h1 : ET M t σ H b) : ET M (tNot t) σ H (!b) := fun hM H1 e _ q => h1 hM H1 e _ fun H2 e2 => q H2 e2
theorem et_chain {r r' : R2} {Tt : TT} (h : ED K M (tChain r r' ta tb tc) σ H (.bool b)) (hT : ∀ σ H Q, (tChain r r' ta tb tc) σ H (fun x H' => ∃ k, x = .bl k ∧ Q k H') → Tt σ H Q) : ET M Tt σ H b := fun hM H1 e Q q =>
  hT _ _ _ (h hM H1 e _ fun v H2 e2 h2 => ⟨b, dp_bl h2, q H2 e2⟩)
theorem eo_none : EO tNoPart σ H none := fun H1 _ _ q => q H1 (Ex.refl H1)
theorem eo_some (hM : MOk M H) (h : ED K M te σ H (.int i)) : EO (tPart te) σ H (some i) := fun H1 e _ q => h hM H1 e _ fun v H2 e2 h2 => ⟨i, dp_int h2, q H2 e2⟩
/-! statements -/
variable {D : Ends} {tu tw : TS}
theorem sd_set {i : Nat} (hM : MOk M H) (h : ED K M te σ H d) (k : ∀ v H1, Ex H H1 → Dp K (hide M H1) v d → D.nx (σ.set i (some v)) H1) : tAsg te (gName i) D σ H := h hM H (Ex.refl H) _ k
theorem sd_ret (hM : MOk M H) (h : ED K M te σ H d) (k : ∀ v H1, Ex H H1 → Dp K (hide M H1) v d → D.rt v H1) : tRet te D σ H := h hM H (Ex.refl H) _ k
theorem sd_drop (hM : MOk M H) (h : ED K M te σ H d) (k : ∀ v H1, Ex H H1 → Dp K (hide M H1) v d → D.nx σ H1) : tDrop te D σ H := h hM H (Ex.refl H) _ k
theorem sd_if (hM : MOk M H) (h : ET M t σ H b) (h1 : b = true → ∀ H1, Ex H H1 → tu D σ H1) (h2 : b = false → ∀ H1, Ex H H1 → tw D σ H1) : tIfS t tu tw D σ H := h hM H (Ex.refl H) _ fun H1 e => by
  cases b with
  | true => exact iteT (h1 rfl H1 e)
  | false => exact iteF (h2 rfl H1 e)
theorem sd_par {i j : Nat} {ta : TA} (hM : MOk M H) (h : EA K M ta σ H [d1, d2]) (k : ∀ v w H1, Ex H H1 → Dp K (hide M H1) v d1 → Dp K (hide M H1) w d2 → D.nx ((σ.set i (some v)).set j (some w)) H1) : tPar i j ta D σ H :=
  h hM H (Ex.refl H) _ fun vs H1 e h1 => by
    cases h1 with
    | cons a h1 =>
      cases h1 with
      | cons b h1 =>
        cases h1
        exact ⟨_, _, rfl, k _ _ H1 e a b⟩
theorem sd_aug {i : Nat} {f : Int → Int → Int} {a c : Int} (hM : MOk M H) (hx : σ[i]? = some (some (.int a))) (h : ED K M te σ H (.int c)) (k : ∀ H1, Ex H H1 → D.nx (σ.set i (some (.int (f a c)))) H1) : tAug i te (ipI f) D σ H :=
  ⟨.int a, hx, h hM H (Ex.refl H) _ fun v H1 e h1 => ⟨a, c, rfl, dp_int h1, k H1 e⟩⟩
end
end WL
end
section
set_option Elab.async false
set_option linter.all false
set_option maxRecDepth 100000
set_option maxHeartbeats 4000000
/-! LayB: types of values by meaning, frames, iterators, comprehensions, loops. -/
namespace WL
open PySem PySem.Spec PyProof.Rows L2 Evl

/-- what a value may be: stays true while the heap grows -/
structure Ty where
  p : V → Hp → Prop
  up : ∀ {v : V} {H H' : Hp}, Ex H H' → p v H → p v H'
def dat (K : PySem.W.Frag) (d : PyData) : Ty := ⟨fun v H => Dp K H v d, fun e h => h.mono e⟩
abbrev tI (K : PySem.W.Frag) (i : Int) : Ty := dat K (.int i)
abbrev tB (K : PySem.W.Frag) (b : Bool) : Ty := dat K (.bool b)
abbrev tS (K : PySem.W.Frag) (s : Str) : Ty := dat K (.str s)
abbrev tV (K : PySem.W.Frag) (v : List Int) : Ty := dat K (dV v)
abbrev tN (K : PySem.W.Frag) : Ty := dat K .none
inductive AllT (H : Hp) : List V → List Ty → Prop where
  | nil : AllT H [] []
  | cons {v : V} {T : Ty} {vs : List V} {Ts : List Ty} : T.p v H → AllT H vs Ts → AllT H (v :: vs) (T :: Ts)
section
variable {K : PySem.W.Frag} {H H' : Hp}
theorem AllT.up (e : Ex H H') : ∀ {vs : List V} {Ts : List Ty}, AllT H vs Ts → AllT H' vs Ts
  | _, _, .nil => .nil
  | _, _, .cons (T := T) a b => .cons (T.up e a) (b.up e)
theorem AllT.len : ∀ {vs : List V} {Ts : List Ty}, AllT H vs Ts → vs.length = Ts.length
  | _, _, .nil => rfl
  | _, _, .cons _ b => congrArg (· + 1) b.len
theorem AllT.get : ∀ {vs : List V} {Ts : List Ty} {i : Nat} {T : Ty}, AllT H vs Ts → Ts[i]? = some T → ∃ v, vs[i]? = some v ∧ T.p v H
  | _, _, _, _, .nil, h => by simp at h
  | _, _, 0, _, .cons a _, h => by
    simp at h; subst h
    exact ⟨_, rfl, a⟩
  | _, _, i + 1, T, .cons _ b, h => by
    obtain ⟨v, h1, h2⟩ := b.get (i := i) (by simpa using h)
    exact ⟨v, by simpa using h1, h2⟩
theorem AllT.app : ∀ {vs ws : List V} {Ts Us : List Ty}, AllT H vs Ts → AllT H ws Us → AllT H (vs ++ ws) (Ts ++ Us)
  | _, _, _, _, .nil, h => h
  | _, _, _, _, .cons a b, h => .cons a (b.app h)
theorem AllT.drop : ∀ {vs : List V} {Ts : List Ty} (n : Nat), AllT H vs Ts → AllT H (vs.drop n) (Ts.drop n)
  | _, _, 0, h => h
  | _, _, _ + 1, .nil => .nil
  | _, _, n + 1, .cons _ b => b.drop n
theorem AllT.take : ∀ {vs : List V} {Ts : List Ty} (n : Nat), AllT H vs Ts → AllT H (vs.take n) (Ts.take n)
  | _, _, 0, _ => .nil
  | _, _, _ + 1, .nil => .nil
  | _, _, n + 1, .cons a b => .cons a (b.take n)
theorem AllT.set : ∀ {vs : List V} {Ts : List Ty} (n : Nat) {v : V} {T : Ty}, AllT H vs Ts → T.p v H → AllT H (vs.set n v) (Ts.set n T)
  | _, _, _, _, _, .nil, _ => .nil
  | _, _, 0, _, _, .cons _ b, h => .cons h b
  | _, _, n + 1, _, _, .cons a b, h => .cons a (b.set n h)
theorem AllT.of_dp : ∀ {vs : List V} {ds : List PyData}, DpAll K H vs ds → AllT H vs (ds.map (dat K))
  | _, _, .nil => .nil
  | _, _, .cons a b => .cons a (AllT.of_dp b)
theorem AllT.dp : ∀ {vs : List V} {ds : List PyData}, AllT H vs (ds.map (dat K)) → DpAll K H vs ds
  | _, [], h => by cases h; exact .nil
  | _, d :: ds, h => by
    cases h with
    | cons a b => exact .cons a (AllT.dp b)
theorem AllT.dpf {α : Type} {f : α → PyData} {vs : List V} {l : List α} (h : AllT H vs (l.map fun a => dat K (f a))) : DpAll K H vs (l.map f) := by
  have : l.map (fun a => dat K (f a)) = (l.map f).map (dat K) := by rw [List.map_map]; rfl
  rw [this] at h
  exact h.dp
theorem AllT.of_dpf {α : Type} {f : α → PyData} {vs : List V} {l : List α} (h : DpAll K H vs (l.map f)) : AllT H vs (l.map fun a => dat K (f a)) := by
  have : l.map (fun a => dat K (f a)) = (l.map f).map (dat K) := by rw [List.map_map]; rfl
  rw [this]
  exact .of_dp h
end
/-- a list, a tuple of such values -/
def tyL (K : PySem.W.Frag) (Ts : List Ty) : Ty := ⟨fun v H => ∃ a xs, v = .ref a ∧ SqL K H a xs ∧ AllT H xs Ts, fun e ⟨a, xs, h1, h2, h3⟩ => ⟨a, xs, h1, ex_l e h2, h3.up e⟩⟩
def tyU (K : PySem.W.Frag) (Ts : List Ty) : Ty := ⟨fun v H => ∃ a xs, v = .ref a ∧ SqT K H a xs ∧ AllT H xs Ts, fun e ⟨a, xs, h1, h2, h3⟩ => ⟨a, xs, h1, ex_t e h2, h3.up e⟩⟩
section
variable {K : PySem.W.Frag} {H H' : Hp} {v : V}
theorem tyL_dp {ds : List PyData} (h : (tyL K (ds.map (dat K))).p v H) : Dp K H v (.list ds) := by
  obtain ⟨a, xs, rfl, h2, h3⟩ := h
  exact .lst h2 h3.dp
theorem dp_tyL {ds : List PyData} (h : Dp K H v (.list ds)) : (tyL K (ds.map (dat K))).p v H := by
  obtain ⟨a, xs, e, h2, h3⟩ := dp_lst h
  exact ⟨a, xs, e, h2, .of_dp h3⟩
theorem tyU_dp {ds : List PyData} (h : (tyU K (ds.map (dat K))).p v H) : Dp K H v (.tuple ds) := by
  obtain ⟨a, xs, rfl, h2, h3⟩ := h
  exact .tup h2 h3.dp
theorem dp_tyU {ds : List PyData} (h : Dp K H v (.tuple ds)) : (tyU K (ds.map (dat K))).p v H := by
  obtain ⟨a, xs, e, h2, h3⟩ := dp_tup h
  exact ⟨a, xs, e, h2, .of_dp h3⟩
end

/-! ### expressions -/
def EG (M : List Addr) (te : TE) (σ : L2.St) (H : Hp) (T : Ty) : Prop :=
  MOk M H → ∀ H1, Ex H H1 → ∀ Q : VK, (∀ v H2, Ex H1 H2 → T.p v (hide M H2) → Q v H2) → te σ H1 Q
def EGA (M : List Addr) (ta : TA) (σ : L2.St) (H : Hp) (Ts : List Ty) : Prop :=
  MOk M H → ∀ H1, Ex H H1 → ∀ Q : List V → Hp → Prop, (∀ vs H2, Ex H1 H2 → AllT (hide M H2) vs Ts → Q vs H2) → ta σ H1 Q
section
variable {K : PySem.W.Frag} {M : List Addr} {σ : L2.St} {H H' : Hp} {ta tb tc te tx : TE} {t u : TT} {x y z v : V} {d d1 d2 : PyData} {b c : Bool} {i j : Int} {T U : Ty} {Ts : List Ty}
theorem ED.eg (h : ED K M te σ H d) : EG M te σ H (dat K d) := h
theorem EG.ed (h : EG M te σ H (dat K d)) : ED K M te σ H d := h
theorem EG.wk (h : EG M te σ H T) (hw : ∀ v H', T.p v H' → U.p v H') : EG M te σ H U := fun hM H1 e Q q => h hM H1 e Q fun v H2 e2 h2 => q v H2 e2 (hw v _ h2)
theorem EG.to (h : EG M te σ H T) (e : T = U) : EG M te σ H U := e ▸ h
theorem eg_var {i : Nat} (h : σ[i]? = some (some v)) (hd : T.p v (hide M H)) : EG M (tVar i) σ H T := fun _ H1 e Q q => ⟨v, h, q v H1 (Ex.refl H1) (T.up (hide_ex e) hd)⟩
theorem eg_if (ht : ET M t σ H b) (h1 : b = true → EG M ta σ H T) (h2 : b = false → EG M tb σ H T) : EG M (tIf t ta tb) σ H T := fun hM H1 e Q q => ht hM H1 e _ fun H2 e2 => by
  cases b with
  | true => exact iteT (h1 rfl hM H2 (e.trans e2) Q fun v H3 e3 h3 => q v H3 (e2.trans e3) h3)
  | false => exact iteF (h2 rfl hM H2 (e.trans e2) Q fun v H3 e3 h3 => q v H3 (e2.trans e3) h3)
theorem ega_nil : EGA M tNil σ H [] := fun _ H1 _ _ q => q _ H1 (Ex.refl H1) .nil
theorem ega_cons {tr : TA} (h : EG M te σ H T) (hr : EGA M tr σ H Ts) : EGA M (tCons te tr) σ H (T :: Ts) := fun hM H1 e _ q =>
  h hM H1 e _ fun v H2 e2 h2 => hr hM H2 (e.trans e2) _ fun vs H3 e3 h3 => q _ H3 (e2.trans e3) (.cons (T.up (hide_ex e3) h2) h3)
theorem ega_d {tr : TA} (h : ED K M te σ H d) (hr : EGA M tr σ H Ts) : EGA M (tCons te tr) σ H (dat K d :: Ts) := ega_cons h.eg hr
theorem eg_tup {ta : TA} (hl : Ts.length ≤ 100000) (h : EGA M ta σ H Ts) : EG M (tTup ta) σ H (tyU K Ts) := fun hM H1 e _ q =>
  h hM H1 e _ fun vs H2 e2 h2 => ⟨by rw [h2.len]; exact sz_of hl, fun p hp => q _ _ (e2.trans (Ex.new hp)) ⟨p, vs, rfl, st_of (by rw [hide_out ((hM.ex (e.trans e2)).new hp)]; exact upd_same), h2.up (new_ex hp)⟩⟩
theorem eg_lst {ta : TA} (hl : Ts.length ≤ 100000) (h : EGA M ta σ H Ts) : EG M (tLst ta) σ H (tyL K Ts) := fun hM H1 e _ q =>
  h hM H1 e _ fun vs H2 e2 h2 => ⟨by rw [h2.len]; exact sz_of hl, fun p hp => q _ _ (e2.trans (Ex.new hp)) ⟨p, vs, rfl, sq_of (by rw [hide_out ((hM.ex (e.trans e2)).new hp)]; exact upd_same), h2.up (new_ex hp)⟩⟩
theorem atI_ty {xs : List V} (h : AllT H xs Ts) (ha : atI Ts i = some T) : ∃ v, atI xs i = some v ∧ T.p v H := by
  unfold atI at ha ⊢
  rw [h.len]
  cases e : ixN Ts.length i with
  | none => rw [e] at ha; cases ha
  | some k =>
    rw [e] at ha
    obtain ⟨v, h1, h2⟩ := h.get ha
    exact ⟨v, h1, h2⟩
theorem eg_ixL (hi : atI Ts i = some T) (ha : EG M ta σ H (tyL K Ts)) (hb : ED K M tb σ H (.int i)) : EG M (tOp (rIxL K) ta tb) σ H T := fun hM H1 e Q q =>
  ha hM H1 e _ fun x H2 e2 ⟨a, xs, ea, hs, hx⟩ => hb hM H2 (e.trans e2) _ fun y H3 e3 h3 => by
    obtain ⟨v, ev, hv⟩ := atI_ty hx hi
    exact ⟨a, xs, i, v, ea, dp_int h3, ex_l (hide_sub _ _) (ex_l (hide_ex e3) hs), ev, q _ H3 (e2.trans e3) (T.up (hide_ex e3) hv)⟩
theorem eg_ixU (hi : atI Ts i = some T) (ha : EG M ta σ H (tyU K Ts)) (hb : ED K M tb σ H (.int i)) : EG M (tOp (rIxT K) ta tb) σ H T := fun hM H1 e Q q =>
  ha hM H1 e _ fun x H2 e2 ⟨a, xs, ea, hs, hx⟩ => hb hM H2 (e.trans e2) _ fun y H3 e3 h3 => by
    obtain ⟨v, ev, hv⟩ := atI_ty hx hi
    exact ⟨a, xs, i, v, ea, dp_int h3, ex_t (hide_sub _ _) (ex_t (hide_ex e3) hs), ev, q _ H3 (e2.trans e3) (T.up (hide_ex e3) hv)⟩
/-- a built-in's call -/
theorem eg_cb {ta : TA} {r : List V → Hp → VK → Prop} (h : EGA M ta σ H Ts) (hr : MOk M H → ∀ xs H1, Ex H H1 → AllT (hide M H1) xs Ts → ∀ Q : VK, (∀ v H2, Ex H1 H2 → T.p v (hide M H2) → Q v H2) → r xs H1 Q) :
    EG M (tCB r ta) σ H T := fun hM H1 e Q q => h hM H1 e _ fun vs H2 e2 h2 => hr hM vs H2 (e.trans e2) h2 Q fun v H3 e3 h3 => q v H3 (e2.trans e3) h3
/-! promises of defs that give a value and leave all as it was -/
def SpT (R : List Ty → Ty → Prop) : Sp := fun vs H Q _ => ∃ M Ts T, MOk M H ∧ AllT (hide M H) vs Ts ∧ R Ts T ∧ ∀ v H', Ex H H' → T.p v (hide M H') → Q v H'
theorem eg_call {ta : TA} {R : List Ty → Ty → Prop} {E : XK} (h : EGA M ta σ H Ts) (r : R Ts T) : EG M (tCall (SpT R) [] E ta) σ H T := fun hM H1 e Q q =>
  h hM H1 e _ fun vs H2 e2 h2 => ⟨M, Ts, T, hM.ex (e.trans e2), by rw [List.append_nil]; exact h2, r, fun v H3 e3 h3 => q v H3 (e2.trans e3) h3⟩
theorem ed_call {ta : TA} {R : List Ty → Ty → Prop} {E : XK} (h : EGA M ta σ H Ts) (r : R Ts (dat K d)) : ED K M (tCall (SpT R) [] E ta) σ H d := eg_call h r
/-! statements -/
variable {D : Ends} {tu tw : TS}
theorem sg_set {i : Nat} (hM : MOk M H) (h : EG M te σ H T) (k : ∀ v H1, Ex H H1 → T.p v (hide M H1) → D.nx (σ.set i (some v)) H1) : tAsg te (gName i) D σ H := h hM H (Ex.refl H) _ k
theorem sg_ret (hM : MOk M H) (h : EG M te σ H T) (k : ∀ v H1, Ex H H1 → T.p v (hide M H1) → D.rt v H1) : tRet te D σ H := h hM H (Ex.refl H) _ k
theorem sg_drop (hM : MOk M H) (h : EG M te σ H T) (k : ∀ v H1, Ex H H1 → T.p v (hide M H1) → D.nx σ H1) : tDrop te D σ H := h hM H (Ex.refl H) _ k
end

/-! ### frames -/
structure Fr (B M0 : List Addr) (H0 : Hp) (M : List Addr) (H : Hp) : Prop where
  keep : ∀ a o, a ∉ B → H0 a = some o → H a = some o
  vis : Ex (hide M0 H0) (hide M H)
  ok : MOk M H
section
variable {B M0 M M' : List Addr} {H0 H H' : Hp} {p a : Addr} {o : HO}
theorem Fr.refl (h : MOk M H) : Fr B M H M H := ⟨fun _ _ _ e => e, Ex.refl _, h⟩
theorem Fr.gex (f : Fr B M0 H0 M H) (e : Ex H H') : Fr B M0 H0 M H' := ⟨fun a o ha h => e a o (f.keep a o ha h), f.vis.trans (hide_ex e), f.ok.ex e⟩
theorem Fr.out (f : Fr [] M0 H0 M H) : Ex H0 H := fun a o h => f.keep a o (by simp) h
theorem Fr.new (f : Fr B M0 H0 M H) (hp : H p = none) : Fr B M0 H0 (p :: M) (upd H p o) where
  keep := fun a u ha h => by
    rw [upd_ne (ne_of_none (f.keep a u ha h) hp)]
    exact f.keep a u ha h
  vis := fun a u h => by
    have h1 := f.vis a u h
    have h2 := hide_sub _ _ a u h1
    have h3 : a ∉ M := fun z => by rw [hide_in z] at h1; cases h1
    rw [hide_out (by simp [h3]; exact ne_of_none h2 hp), upd_ne (ne_of_none h2 hp)]
    exact h2
  ok := fun b hb => by
    rcases List.mem_cons.mp hb with q | q
    · rw [q, upd_same]; exact Option.some_ne_none o
    · exact (f.ok.ex (Ex.new hp)) b q
theorem Fr.upd (f : Fr B M0 H0 M H) (ha : a ∈ M) (hB : a ∈ B ∨ H0 a = none) : Fr B M0 H0 M (upd H a o) where
  keep := fun b u hb h => by
    have : b ≠ a := by
      rcases hB with z | z
      · exact fun e => hb (by rw [e]; exact z)
      · exact ne_of_none h z
    rw [upd_ne this]
    exact f.keep b u hb h
  vis := by rw [hide_upd ha]; exact f.vis
  ok := f.ok.upd a o
theorem Fr.trans {B' M2 : List Addr} {H2 : Hp} (f : Fr B M0 H0 M H) (g : Fr B' M H M2 H2) (h : ∀ a ∈ B', a ∈ B ∨ H0 a = none) : Fr B M0 H0 M2 H2 where
  keep := fun a o ha q => g.keep a o (fun z => by
    rcases h a z with y | y
    · exact ha y
    · rw [y] at q; cases q) (f.keep a o ha q)
  vis := f.vis.trans g.vis
  ok := g.ok
end

theorem AllT.at {H : Hp} : ∀ {vs : List V} {Ts : List Ty} {i : Nat} {v : V}, AllT H vs Ts → vs[i]? = some v → ∃ T, Ts[i]? = some T ∧ T.p v H
  | _, _, _, _, .nil, h => by simp at h
  | _, _, 0, _, .cons a _, h => by
    simp at h; subst h
    exact ⟨_, rfl, a⟩
  | _, _, i + 1, v, .cons _ b, h => by
    obtain ⟨T, h1, h2⟩ := b.at (i := i) (by simpa using h)
    exact ⟨T, by simpa using h1, h2⟩
/-! ### iterators -/
/-- from here on, while what is seen stays, the iterator gives the values of src, one a turn, and then stops -/
def Gives {α : Type} (M : List Addr) (J : It) (src : List α) (ty : α → Ty) (H : Hp) : Prop :=
  ∀ M' H', Ex (hide M H) (hide M' H') → MOk M' H' →
    (∀ i a, src[i]? = some a → J.go i H' ∧ ∀ x H2, J.yld i H' x H2 → Ex H' H2 ∧ (ty a).p x (hide M' H2)) ∧ (∀ i, src.length ≤ i → J.stop i H')
def EI {α : Type} (M : List Addr) (wi : TI) (σ : L2.St) (H : Hp) (src : List α) (ty : α → Ty) : Prop :=
  MOk M H → ∀ H1, Ex H H1 → ∀ R : It → Hp → Prop, (∀ J H2, Ex H1 H2 → Gives M J src ty H2 → R J H2) → wi σ H1 R
section
variable {K : PySem.W.Frag} {M : List Addr} {σ : L2.St} {H H' : Hp} {α β : Type} {src : List α} {ty : α → Ty} {srb : List β} {tyb : β → Ty} {ta tb te : TE}
theorem gives_l {a : Addr} {xs : List V} (hs : SqL K (hide M H) a xs) (hx : AllT (hide M H) xs (src.map ty)) : Gives M (Itl K a) src ty H := fun M' H' e _ => by
  have h1 := ex_l e hs
  have h2 := hx.up e
  have hl := h2.len
  have h3 := ex_l (hide_sub _ _) h1
  refine ⟨fun i u hi => ?_, fun i hi => ⟨xs, h3, by rw [hl, List.length_map]; exact hi⟩⟩
  obtain ⟨v, ev, hv⟩ := h2.get (i := i) (T := ty u) (by rw [List.getElem?_map, hi]; rfl)
  refine ⟨⟨xs, v, h3, ev⟩, fun x H2 ⟨e2, hx⟩ => ?_⟩
  subst e2
  have := hx xs h3
  rw [ev] at this
  injection this with this
  subst this
  exact ⟨Ex.refl _, hv⟩
theorem gives_t {a : Addr} {xs : List V} (hs : SqT K (hide M H) a xs) (hx : AllT (hide M H) xs (src.map ty)) : Gives M (Itt K a) src ty H := fun M' H' e _ => by
  have h1 := ex_t e hs
  have h2 := hx.up e
  have hl := h2.len
  have h3 := ex_t (hide_sub _ _) h1
  refine ⟨fun i u hi => ?_, fun i hi => ⟨xs, h3, by rw [hl, List.length_map]; exact hi⟩⟩
  obtain ⟨v, ev, hv⟩ := h2.get (i := i) (T := ty u) (by rw [List.getElem?_map, hi]; rfl)
  refine ⟨⟨xs, v, h3, ev⟩, fun x H2 ⟨e2, hx⟩ => ?_⟩
  subst e2
  have := hx xs h3
  rw [ev] at this
  injection this with this
  subst this
  exact ⟨Ex.refl _, hv⟩
theorem ei_l (h : EG M te σ H (tyL K (src.map ty))) : EI M (iList K te) σ H src ty := fun hM H1 e R q => h hM H1 e _ fun v H2 e2 ⟨a, xs, ea, hs, hx⟩ =>
  ⟨a, ea, ⟨xs, ex_l (hide_sub _ _) hs⟩, q _ H2 e2 (gives_l hs hx)⟩
theorem ei_t (h : EG M te σ H (tyU K (src.map ty))) : EI M (iTup K te) σ H src ty := fun hM H1 e R q => h hM H1 e _ fun v H2 e2 ⟨a, xs, ea, hs, hx⟩ =>
  ⟨a, ea, ⟨xs, ex_t (hide_sub _ _) hs⟩, q _ H2 e2 (gives_t hs hx)⟩
/-- of data -/
theorem ei_ld {f : α → PyData} (h : ED K M te σ H (.list (src.map f))) : EI M (iList K te) σ H src (fun a => dat K (f a)) := ei_l (h.eg.wk fun v H' hv => by
  have := dp_tyL hv
  rw [List.map_map] at this
  exact this)
theorem ei_td {f : α → PyData} (h : ED K M te σ H (.tuple (src.map f))) : EI M (iTup K te) σ H src (fun a => dat K (f a)) := ei_t (h.eg.wk fun v H' hv => by
  have := dp_tyU hv
  rw [List.map_map] at this
  exact this)
/-- range(n): the numbers 0 .. n - 1 -/
theorem gives_r {lo : Int} {n : Nat} : Gives M (Itr lo n) (List.range n) (fun i : Nat => dat K (.int (lo + i))) H := fun M' H' _ _ => by
  refine ⟨fun i u hi => ?_, fun i hi => (by simpa using hi : n ≤ i)⟩
  have h1 := (List.getElem?_eq_some_iff.mp hi)
  obtain ⟨h1, h2⟩ := h1
  simp at h1 h2
  subst h2
  exact ⟨h1, fun x H2 ⟨e2, ex⟩ => by subst e2 ex; exact ⟨Ex.refl _, .int _⟩⟩
theorem ei_r1 {ta : TA} {n : Nat} (hn : n ≤ 100000) (h : EA K M ta σ H [.int n]) : EI M (iRng1 ta) σ H (List.range n) (fun i : Nat => dat K (.int (i : Int))) := fun hM H1 e R q => h hM H1 e _ fun vs H2 e2 h2 => by
  cases h2 with
  | cons a b =>
    cases b
    rw [dp_int a]
    refine ⟨n, rfl, by omega, by omega, q _ H2 e2 ?_⟩
    have := gives_r (K := K) (M := M) (H := H2) (lo := 0) (n := n)
    simp only [Int.zero_add] at this
    rw [Int.toNat_natCast]
    exact this
theorem ei_r2 {ta : TA} {lo hi : Int} (hl : -100000 ≤ lo ∧ lo ≤ 100000) (hh : -100000 ≤ hi ∧ hi ≤ 100000) (h : EA K M ta σ H [.int lo, .int hi]) : EI M (iRng2 ta) σ H (List.range (hi - lo).toNat) (fun i : Nat => dat K (.int (lo + i))) := fun hM H1 e R q => h hM H1 e _ fun vs H2 e2 h2 => by
  cases h2 with
  | cons a b =>
    cases b with
    | cons b c =>
      cases c
      rw [dp_int a, dp_int b]
      exact ⟨lo, hi, rfl, ⟨by omega, by omega, by omega, by omega⟩, q _ H2 e2 gives_r⟩
/-- zip of two tuples -/
theorem zip_get {l1 : List α} {l2 : List β} {i : Nat} {a : α} {b : β} (h : (l1.zip l2)[i]? = some (a, b)) : l1[i]? = some a ∧ l2[i]? = some b := by
  rw [List.getElem?_zip_eq_some] at h
  exact h
theorem ei_zip {ta : TA} (h : EGA M ta σ H [tyU K (src.map ty), tyU K (srb.map tyb)]) : EI M (RZ.iZipA K ta) σ H (src.zip srb) (fun ab => tyU K [ty ab.1, tyb ab.2]) := fun hM H1 e R q => h hM H1 e _ fun vs H2 e2 h2 => by
  cases h2 with
  | cons a b =>
    cases b with
    | cons b c =>
      cases c
      obtain ⟨a1, xs, rfl, hs, hx⟩ := a
      obtain ⟨b1, ys, rfl, gs, gx⟩ := b
      refine ⟨a1, b1, xs, ys, rfl, .inr ⟨ex_t (hide_sub _ _) hs, ex_t (hide_sub _ _) gs, q _ H2 e2 ?_⟩⟩
      intro M' H' e3 hM'
      have k1 := ex_t (hide_sub _ _) (ex_t e3 hs)
      have k2 := ex_t (hide_sub _ _) (ex_t e3 gs)
      have hx := hx.up e3
      have gx := gx.up e3
      have l1 := hx.len
      have l2 := gx.len
      rw [List.length_map] at l1 l2
      refine ⟨fun i u hi => ?_, fun i hi => ⟨xs, ys, k1, k2, by
        rw [List.length_zip] at hi
        rw [l1, l2]
        omega⟩⟩
      obtain ⟨u1, u2⟩ := u
      obtain ⟨z1, z2⟩ := zip_get hi
      obtain ⟨v1, ev1, hv1⟩ := hx.get (i := i) (T := ty u1) (by rw [List.getElem?_map, z1]; rfl)
      obtain ⟨v2, ev2, hv2⟩ := gx.get (i := i) (T := tyb u2) (by rw [List.getElem?_map, z2]; rfl)
      refine ⟨⟨xs, ys, v1, v2, k1, k2, ev1, ev2⟩, fun x H3 ⟨t, x1, y1, ex, ht, eH, w1, w2⟩ => ?_⟩
      subst eH ex
      have w1 := w1 xs k1
      have w2 := w2 ys k2
      rw [ev1] at w1
      rw [ev2] at w2
      injection w1 with w1
      injection w2 with w2
      subst w1 w2
      exact ⟨Ex.new ht, t, [v1, v2], rfl, st_of (by rw [hide_out (hM'.new ht)]; exact upd_same), .cons ((ty u1).up (new_ex ht) hv1) (.cons ((tyb u2).up (new_ex ht) hv2) .nil)⟩
/-- enumerate -/
theorem ei_enum {ta : TA} (h : EGA M ta σ H [tyL K (src.map ty)]) : EI M (iEnum K ta) σ H src.zipIdx (fun ab => tyU K [dat K (.int (ab.2 : Int)), ty ab.1]) := fun hM H1 e R q => h hM H1 e _ fun vs H2 e2 h2 => by
  cases h2 with
  | cons a b =>
    cases b
    obtain ⟨a1, xs, rfl, hs, hx⟩ := a
    refine ⟨a1, xs, rfl, ex_l (hide_sub _ _) hs, q _ H2 e2 ?_⟩
    intro M' H' e3 hM'
    have k1 := ex_l (hide_sub _ _) (ex_l e3 hs)
    have hx := hx.up e3
    have l1 := hx.len
    rw [List.length_map] at l1
    refine ⟨fun i u hi => ?_, fun i hi => ⟨xs, k1, by
      rw [List.length_zipIdx] at hi
      rw [l1]
      omega⟩⟩
    obtain ⟨u1, j⟩ := u
    rw [List.getElem?_zipIdx] at hi
    cases z1 : src[i]? with
    | none => rw [z1] at hi; simp at hi
    | some w =>
      rw [z1] at hi
      simp at hi
      obtain ⟨rfl, rfl⟩ := hi
      obtain ⟨v1, ev1, hv1⟩ := hx.get (i := i) (T := ty w) (by rw [List.getElem?_map, z1]; rfl)
      refine ⟨⟨xs, v1, k1, ev1⟩, fun x H3 ⟨t, x1, ex, ht, eH, w1⟩ => ?_⟩
      subst eH ex
      have w1 := w1 xs k1
      rw [ev1] at w1
      injection w1 with w1
      subst w1
      exact ⟨Ex.new ht, t, [.int (i : Nat), v1], rfl, st_of (by rw [hide_out (hM'.new ht)]; exact upd_same), .cons (.int _) (.cons ((ty w).up (new_ex ht) hv1) .nil)⟩

/-! ### comprehensions -/
def Turn (M : List Addr) (g : TG) (tt : TT) (te : TE) (vs : List Nat) (σ : L2.St) (x : V) (H : Hp) (b : Bool) (T : Ty) : Prop :=
  MOk M H → ∀ H1, Ex H H1 → ∀ (Qy : VK) (Qn : Hp → Prop), (b = true → ∀ v H2, Ex H1 H2 → T.p v (hide M H2) → Qy v H2) → (b = false → ∀ H2, Ex H1 H2 → Qn H2) →
    g x (wipe σ vs) H1 fun σ2 H2 => wipe σ2 vs = wipe σ vs ∧ tt σ2 H2 fun k H3 => if k = true then te σ2 H3 Qy else Qn H3
theorem turn_at {tt : TT} {σ2 : L2.St} {b : Bool} {T : Ty} (ht : ET M tt σ2 H b) (he : b = true → EG M te σ2 H T) (hM : MOk M H) {H1 : Hp} (e : Ex H H1) {Qy : VK} {Qn : Hp → Prop} (qy : b = true → ∀ v H2, Ex H1 H2 → T.p v (hide M H2) → Qy v H2)
    (qn : b = false → ∀ H2, Ex H1 H2 → Qn H2) : tt σ2 H1 fun k H3 => if k = true then te σ2 H3 Qy else Qn H3 := ht hM H1 e _ fun H2 e2 => by
  cases b with
  | true => exact iteT (he rfl hM H2 (e.trans e2) _ fun v H3 e3 h3 => qy rfl v H3 (e2.trans e3) h3)
  | false => exact iteF (qn rfl H2 e2)
theorem turn_name {i : Nat} {tt : TT} {vs : List Nat} {x : V} {b : Bool} {T : Ty} (hw : wipe ((wipe σ vs).set i (some x)) vs = wipe σ vs) (ht : ET M tt ((wipe σ vs).set i (some x)) H b) (he : b = true → EG M te ((wipe σ vs).set i (some x)) H T) :
    Turn M (gName i) tt te vs σ x H b T := fun hM H1 e Qy Qn qy qn => ⟨hw, turn_at ht he hM e qy qn⟩
theorem turn_pair {i j : Nat} {tt : TT} {vs : List Nat} {y z : V} {b : Bool} {T : Ty} {a : Addr} (hx : SqT K (hide M H) a [y, z]) (hw : wipe (((wipe σ vs).set i (some y)).set j (some z)) vs = wipe σ vs) (ht : ET M tt (((wipe σ vs).set i (some y)).set j (some z)) H b)
    (he : b = true → EG M te (((wipe σ vs).set i (some y)).set j (some z)) H T) : Turn M (gTup K 2 (gCons (gName i) (gCons (gName j) gNil))) tt te vs σ (.ref a) H b T := fun hM H1 e Qy Qn qy qn =>
  ⟨a, [y, z], rfl, ex_t (hide_sub _ _) (ex_t (hide_ex e) hx), rfl, y, [z], rfl, z, [], rfl, rfl, hw, turn_at ht he hM e qy qn⟩
theorem turn_trip {i j l : Nat} {tt : TT} {vs : List Nat} {y z w : V} {b : Bool} {T : Ty} {a : Addr} (hx : SqT K (hide M H) a [y, z, w]) (hw : wipe ((((wipe σ vs).set i (some y)).set j (some z)).set l (some w)) vs = wipe σ vs) (ht : ET M tt ((((wipe σ vs).set i (some y)).set j (some z)).set l (some w)) H b)
    (he : b = true → EG M te ((((wipe σ vs).set i (some y)).set j (some z)).set l (some w)) H T) : Turn M (gTup K 3 (gCons (gName i) (gCons (gName j) (gCons (gName l) gNil)))) tt te vs σ (.ref a) H b T := fun hM H1 e Qy Qn qy qn =>
  ⟨a, [y, z, w], rfl, ex_t (hide_sub _ _) (ex_t (hide_ex e) hx), rfl, y, [z, w], rfl, z, [w], rfl, w, [], rfl, rfl, hw, turn_at ht he hM e qy qn⟩
theorem et_yes : ET M tYes σ H true := fun _ H1 _ Q q => q H1 (Ex.refl H1)
/-- [e for x in src if p] -/
theorem eg_lc {wi : TI} {g : TG} {tt : TT} {vs : List Nat} (hi : EI M wi σ H src ty) (hl : src.length ≤ 90000) (p : α → Bool) (f : α → Ty)
    (ht : ∀ M' H' x a (i : Nat), Ex (hide M H) (hide M' H') → MOk M' H' → src[i]? = some a → (ty a).p x (hide M' H') → Turn M' g tt te vs σ x H' (p a) (f a)) :
    EG M (tLc wi g tt te vs) σ H (tyL K ((src.filter p).map f)) := fun hM H1 e Q q => hi hM H1 e _ fun J H2 e2 gv => fun D hD => by
  have hM2 : MOk M H2 := hM.ex (e.trans e2)
  have hDM : D ∉ M := hM2.new hD
  have fr0 : Fr [] M H2 (D :: M) (upd H2 D (.lst [])) := (Fr.refl hM2).new hD
  refine ⟨fun i m H' => m = src.length - i ∧ i ≤ src.length ∧ Fr [] M H2 (D :: M) H' ∧ ∃ ys, H' D = some (.lst ys) ∧ ys.length ≤ i ∧ AllT (hide (D :: M) H') ys (((src.take i).filter p).map f), ⟨src.length, by simp, Nat.zero_le _, fr0, [], upd_same, Nat.zero_le _, by simpa using AllT.nil⟩, ?_⟩
  rintro i m H' ⟨rfl, hi2, fr, ys, hy, hyl, hys⟩
  obtain ⟨g1, g2⟩ := gv (D :: M) H' fr.vis fr.ok
  by_cases hlt : i < src.length
  · have hsi : src[i]? = some src[i] := by simp [hlt]
    obtain ⟨g3, g4⟩ := g1 i src[i] hsi
    refine .inr ⟨g3, fun H4 => i + 1 ≤ src.length ∧ Fr [] M H2 (D :: M) H4 ∧ ∃ ys, H4 D = some (.lst ys) ∧ ys.length ≤ i + 1 ∧ AllT (hide (D :: M) H4) ys (((src.take (i + 1)).filter p).map f), fun H4 h4 => ⟨src.length - (i + 1), by omega, rfl, h4⟩, fun x H4 y4 => ?_⟩
    obtain ⟨e4, t4⟩ := g4 x H4 y4
    have fr4 := fr.gex e4
    have hfr : Ex (hide M H) (hide (D :: M) H4) := (hide_ex (e.trans e2)).trans fr4.vis
    have etake : src.take (i + 1) = src.take i ++ [src[i]] := by rw [List.take_add_one, hsi]; rfl
    refine ht (D :: M) H4 x src[i] i hfr fr4.ok hsi t4 fr4.ok H4 (Ex.refl _) _ _ (fun hb v H5 e5 h5 => ?_) (fun hb H5 e5 => ?_)
    · have e45 := e4.trans e5
      refine ⟨ys, e45 D _ hy, sz_lt (by omega), by omega, ?_⟩
      have fr5 := (fr.gex e45).upd (a := D) (o := .lst (ys ++ [v])) (by simp) (.inr hD)
      refine ⟨fr5, ys ++ [v], upd_same, by simp; omega, ?_⟩
      rw [hide_upd (by simp), etake, List.filter_append, List.map_append]
      refine (hys.up (hide_ex e45)).app ?_
      simp [hb]
      exact .cons h5 .nil
    · have e45 := e4.trans e5
      refine ⟨by omega, fr.gex e45, ys, e45 D _ hy, by omega, ?_⟩
      rw [etake, List.filter_append, List.map_append]
      simp [hb]
      have := hys.up (hide_ex e45)
      simpa using this
  · have ei : i = src.length := by omega
    subst ei
    refine .inl ⟨g2 _ (Nat.le_refl _), q _ H' (e2.trans fr.out) ⟨D, ys, rfl, sq_of (by rw [hide_out hDM]; exact hy), ?_⟩⟩
    rw [List.take_length] at hys
    exact hys.up (hide_less fun a ha => List.mem_cons_of_mem _ ha)
theorem eg_lcA {wi : TI} {g : TG} {vs : List Nat} (hi : EI M wi σ H src ty) (hl : src.length ≤ 90000) (f : α → Ty)
    (ht : ∀ M' H' x a (i : Nat), Ex (hide M H) (hide M' H') → MOk M' H' → src[i]? = some a → (ty a).p x (hide M' H') → Turn M' g tYes te vs σ x H' true (f a)) :
    EG M (tLc wi g tYes te vs) σ H (tyL K (src.map f)) := by
  have := eg_lc (K := K) hi hl (fun _ => true) f ht
  rwa [List.filter_eq_self.mpr (by simp)] at this
theorem tyL_d {f : α → PyData} (h : EG M te σ H (tyL K (src.map fun a => dat K (f a)))) : ED K M te σ H (.list (src.map f)) := (h.wk (U := dat K (.list (src.map f))) fun v H' hv => tyL_dp (by rw [List.map_map]; exact hv)).ed
theorem ed_lc {wi : TI} {g : TG} {tt : TT} {vs : List Nat} (hi : EI M wi σ H src ty) (hl : src.length ≤ 90000) (p : α → Bool) (f : α → PyData)
    (ht : ∀ M' H' x a (i : Nat), Ex (hide M H) (hide M' H') → MOk M' H' → src[i]? = some a → (ty a).p x (hide M' H') → Turn M' g tt te vs σ x H' (p a) (dat K (f a))) :
    ED K M (tLc wi g tt te vs) σ H (.list ((src.filter p).map f)) := tyL_d (eg_lc hi hl p (fun a => dat K (f a)) ht)
theorem ed_lcA {wi : TI} {g : TG} {vs : List Nat} (hi : EI M wi σ H src ty) (hl : src.length ≤ 90000) (f : α → PyData)
    (ht : ∀ M' H' x a (i : Nat), Ex (hide M H) (hide M' H') → MOk M' H' → src[i]? = some a → (ty a).p x (hide M' H') → Turn M' g tYes te vs σ x H' true (dat K (f a))) :
    ED K M (tLc wi g tYes te vs) σ H (.list (src.map f)) := tyL_d (eg_lcA hi hl (fun a => dat K (f a)) ht)

/-! ### loops -/
theorem s_for {wi : TI} {g : TG} {tb : TS} {D : Ends} (hM : MOk M H) (hi : EI M wi σ H src ty) (M' : List Addr) (Pv : Hp → Nat → L2.St → Hp → Prop)
    (hP : ∀ H1 i σ' H', Ex H H1 → Pv H1 i σ' H' → Ex (hide M H1) (hide M' H') ∧ MOk M' H') (h0 : ∀ H1, Ex H H1 → Pv H1 0 σ H1)
    (hs : ∀ H1 (i : Nat) a x σ' H' H2, Ex H H1 → src[i]? = some a → Pv H1 i σ' H' → Ex H' H2 → (ty a).p x (hide M' H2) → g x σ' H2 fun σ3 H3 => tb { D with nx := Pv H1 (i + 1), ct := Pv H1 (i + 1), bk := D.nx } σ3 H3)
    (hd : ∀ H1 σ' H', Ex H H1 → Pv H1 src.length σ' H' → D.nx σ' H') : tFor wi g tb D σ H := hi hM H (Ex.refl H) _ fun J H1 e gv => by
  refine ⟨fun i m σ' H' => m = src.length - i ∧ i ≤ src.length ∧ Pv H1 i σ' H', ⟨src.length, by simp, Nat.zero_le _, h0 H1 e⟩, ?_⟩
  rintro i m σ' H' ⟨rfl, hi2, p⟩
  obtain ⟨f1, f2⟩ := hP H1 i σ' H' e p
  obtain ⟨g1, g2⟩ := gv M' H' f1 f2
  by_cases hlt : i < src.length
  · obtain ⟨g3, g4⟩ := g1 i src[i] (by simp [hlt])
    refine .inr ⟨g3, Pv H1 (i + 1), fun σ4 H4 h4 => ⟨src.length - (i + 1), by omega, rfl, by omega, h4⟩, fun x H4 y4 => ?_⟩
    obtain ⟨e4, t4⟩ := g4 x H4 y4
    exact hs H1 i src[i] x σ' H' H4 e (by simp [hlt]) p e4 t4
  · have ei : i = src.length := by omega
    subst ei
    exact .inl ⟨g2 _ (Nat.le_refl _), hd H1 _ _ e p⟩
/-- nothing but new objects -/
theorem s_forP {wi : TI} {g : TG} {tb : TS} {D : Ends} (hM : MOk M H) (hi : EI M wi σ H src ty) (Pv : Nat → L2.St → Hp → Prop) (h0 : ∀ H1, Ex H H1 → Pv 0 σ H1)
    (hs : ∀ H1 (i : Nat) a x σ' H' H2, Ex H H1 → Ex H1 H' → src[i]? = some a → Pv i σ' H' → Ex H' H2 → (ty a).p x (hide M H2) → g x σ' H2 fun σ3 H3 => tb { D with nx := fun σ4 H4 => Ex H1 H4 ∧ Pv (i + 1) σ4 H4, ct := fun σ4 H4 => Ex H1 H4 ∧ Pv (i + 1) σ4 H4, bk := D.nx } σ3 H3)
    (hd : ∀ σ' H', Ex H H' → Pv src.length σ' H' → D.nx σ' H') : tFor wi g tb D σ H :=
  s_for hM hi M (fun H1 i σ' H' => Ex H1 H' ∧ Pv i σ' H') (fun H1 i σ' H' e p => ⟨hide_ex p.1, hM.ex (e.trans p.1)⟩) (fun H1 e => ⟨Ex.refl _, h0 H1 e⟩)
    (fun H1 i a x σ' H' H2 e hi p e2 hx => hs H1 i a x σ' H' H2 e p.1 hi p.2 e2 hx) (fun H1 σ' H' e p => hd σ' H' (e.trans p.1) p.2)
theorem s_while {t : TT} {tb : TS} {D : Ends} (W : Nat → L2.St → Hp → Prop) (m0 : Nat) (h0 : W m0 σ H)
    (hs : ∀ m σ' H', W m σ' H' → ∃ M' b, MOk M' H' ∧ ET M' t σ' H' b ∧ (b = true → ∀ H1, Ex H' H1 → tb { D with nx := fun σ2 H2 => ∃ m', m' < m ∧ W m' σ2 H2, ct := fun σ2 H2 => ∃ m', m' < m ∧ W m' σ2 H2, bk := D.nx } σ' H1) ∧ (b = false → ∀ H1, Ex H' H1 → D.nx σ' H1)) :
    tWhile t tb D σ H := by
  refine ⟨W, ⟨m0, h0⟩, fun m σ' H' w => ?_⟩
  obtain ⟨M', b, hM, ht, h1, h2⟩ := hs m σ' H' w
  refine ht hM H' (Ex.refl _) _ fun H1 e1 => ?_
  cases b with
  | true => exact iteT ⟨_, fun _ _ z => z, h1 rfl H1 e1⟩
  | false => exact iteF (h2 rfl H1 e1)
end
end WL
end
section
set_option Elab.async false
set_option linter.all false
set_option maxRecDepth 100000
set_option maxHeartbeats 4000000
/-! LayC: what the top leaves (Glb), how a def is made known, built-ins. -/
namespace WL
open PySem PySem.Spec PyProof.Rows L2 Evl HeadW
abbrev PP : Program := (PySem.Challenge.rw_shywheels_k66_whole_plans_played).prog
structure Glb (w : World) (K : PySem.W.Frag) (mg : Str → Option Value) (base : Heap) : Prop where
  says : Says K
  kin : K.In base
  ns : base.Ns mainGlobals mg
section
variable {w : World} {K : PySem.W.Frag} {mg : Str → Option Value} {base : Heap}
theorem Glb.g_WheelError (G : Glb w K mg base) : mg "WheelError" = some (.ref (He.ga K "WheelError")) := He.glo_ok G.kin G.ns (G.says.d.fact 0 (f := .glo "WheelError") rfl)
theorem Glb.g_Wrong (G : Glb w K mg base) : mg "Wrong" = some (.ref (He.ga K "Wrong")) := He.glo_ok G.kin G.ns (G.says.d.fact 1 (f := .glo "Wrong") rfl)
theorem Glb.g_NotUnit (G : Glb w K mg base) : mg "NotUnit" = some (.ref (He.ga K "NotUnit")) := He.glo_ok G.kin G.ns (G.says.d.fact 2 (f := .glo "NotUnit") rfl)
theorem Glb.g_NoNumber (G : Glb w K mg base) : mg "NoNumber" = some (.ref (He.ga K "NoNumber")) := He.glo_ok G.kin G.ns (G.says.d.fact 3 (f := .glo "NoNumber") rfl)
theorem Glb.g_BadWindow (G : Glb w K mg base) : mg "BadWindow" = some (.ref (He.ga K "BadWindow")) := He.glo_ok G.kin G.ns (G.says.d.fact 4 (f := .glo "BadWindow") rfl)
theorem Glb.g_BadPlan (G : Glb w K mg base) : mg "BadPlan" = some (.ref (He.ga K "BadPlan")) := He.glo_ok G.kin G.ns (G.says.d.fact 5 (f := .glo "BadPlan") rfl)
theorem Glb.n_BadPlan_readings (G : Glb w K mg base) : NoAttr K (He.ga K "BadPlan") "readings" := He.noat_ok (G.says.d.fact 6 (f := .noat "BadPlan" "readings") rfl)
theorem Glb.g_Unlike (G : Glb w K mg base) : mg "Unlike" = some (.ref (He.ga K "Unlike")) := He.glo_ok G.kin G.ns (G.says.d.fact 7 (f := .glo "Unlike") rfl)
theorem Glb.g_is_integer (G : Glb w K mg base) : mg "is_integer" = some (.ref (He.ga K "is_integer")) := He.glo_ok G.kin G.ns (G.says.d.fact 8 (f := .glo "is_integer") rfl)
theorem Glb.g_is_between (G : Glb w K mg base) : mg "is_between" = some (.ref (He.ga K "is_between")) := He.glo_ok G.kin G.ns (G.says.d.fact 9 (f := .glo "is_between") rfl)
theorem Glb.g_is_name (G : Glb w K mg base) : mg "is_name" = some (.ref (He.ga K "is_name")) := He.glo_ok G.kin G.ns (G.says.d.fact 10 (f := .glo "is_name") rfl)
theorem Glb.g_is_modulus (G : Glb w K mg base) : mg "is_modulus" = some (.ref (He.ga K "is_modulus")) := He.glo_ok G.kin G.ns (G.says.d.fact 11 (f := .glo "is_modulus") rfl)
theorem Glb.g_is_width (G : Glb w K mg base) : mg "is_width" = some (.ref (He.ga K "is_width")) := He.glo_ok G.kin G.ns (G.says.d.fact 12 (f := .glo "is_width") rfl)
theorem Glb.g_is_vector (G : Glb w K mg base) : mg "is_vector" = some (.ref (He.ga K "is_vector")) := He.glo_ok G.kin G.ns (G.says.d.fact 13 (f := .glo "is_vector") rfl)
theorem Glb.g_bezout (G : Glb w K mg base) : mg "bezout" = some (.ref (He.ga K "bezout")) := He.glo_ok G.kin G.ns (G.says.d.fact 14 (f := .glo "bezout") rfl)
theorem Glb.g_content (G : Glb w K mg base) : mg "content" = some (.ref (He.ga K "content")) := He.glo_ok G.kin G.ns (G.says.d.fact 15 (f := .glo "content") rfl)
theorem Glb.g_normalizer (G : Glb w K mg base) : mg "normalizer" = some (.ref (He.ga K "normalizer")) := He.glo_ok G.kin G.ns (G.says.d.fact 16 (f := .glo "normalizer") rfl)
theorem Glb.g_invert (G : Glb w K mg base) : mg "invert" = some (.ref (He.ga K "invert")) := He.glo_ok G.kin G.ns (G.says.d.fact 17 (f := .glo "invert") rfl)
theorem Glb.g_product (G : Glb w K mg base) : mg "product" = some (.ref (He.ga K "product")) := He.glo_ok G.kin G.ns (G.says.d.fact 18 (f := .glo "product") rfl)
theorem Glb.g_plus_multiple (G : Glb w K mg base) : mg "plus_multiple" = some (.ref (He.ga K "plus_multiple")) := He.glo_ok G.kin G.ns (G.says.d.fact 19 (f := .glo "plus_multiple") rfl)
theorem Glb.g_combine (G : Glb w K mg base) : mg "combine" = some (.ref (He.ga K "combine")) := He.glo_ok G.kin G.ns (G.says.d.fact 20 (f := .glo "combine") rfl)
theorem Glb.g_lead_within (G : Glb w K mg base) : mg "lead_within" = some (.ref (He.ga K "lead_within")) := He.glo_ok G.kin G.ns (G.says.d.fact 21 (f := .glo "lead_within") rfl)
theorem Glb.g_insert (G : Glb w K mg base) : mg "insert" = some (.ref (He.ga K "insert")) := He.glo_ok G.kin G.ns (G.says.d.fact 22 (f := .glo "insert") rfl)
theorem Glb.g_pivots_of (G : Glb w K mg base) : mg "pivots_of" = some (.ref (He.ga K "pivots_of")) := He.glo_ok G.kin G.ns (G.says.d.fact 23 (f := .glo "pivots_of") rfl)
theorem Glb.g_reduced_by (G : Glb w K mg base) : mg "reduced_by" = some (.ref (He.ga K "reduced_by")) := He.glo_ok G.kin G.ns (G.says.d.fact 24 (f := .glo "reduced_by") rfl)
theorem Glb.g_table_of (G : Glb w K mg base) : mg "table_of" = some (.ref (He.ga K "table_of")) := He.glo_ok G.kin G.ns (G.says.d.fact 25 (f := .glo "table_of") rfl)
theorem Glb.g_Span (G : Glb w K mg base) : mg "Span" = some (.ref (He.ga K "Span")) := He.glo_ok G.kin G.ns (G.says.d.fact 26 (f := .glo "Span") rfl)
theorem Glb.k_Span (G : Glb w K mg base) : Cls K (He.ga K "Span") := He.cls_ok (G.says.d.fact 27 (f := .cls "Span") rfl)
theorem Glb.mk_Span (G : Glb w K mg base) : Mk K (He.ga K "Span") (He.ma K (He.ga K "Span") "__init__") := He.mkr_ok (G.says.d.fact 28 (f := .mkr "Span") rfl)
theorem Glb.n_Span_kept_modulus (G : Glb w K mg base) : NoAttr K (He.ga K "Span") "kept_modulus" := He.noat_ok (G.says.d.fact 29 (f := .noat "Span" "kept_modulus") rfl)
theorem Glb.n_Span_kept_width (G : Glb w K mg base) : NoAttr K (He.ga K "Span") "kept_width" := He.noat_ok (G.says.d.fact 30 (f := .noat "Span" "kept_width") rfl)
theorem Glb.n_Span_kept_table (G : Glb w K mg base) : NoAttr K (He.ga K "Span") "kept_table" := He.noat_ok (G.says.d.fact 31 (f := .noat "Span" "kept_table") rfl)
theorem Glb.n_Span_rows (G : Glb w K mg base) : NoAttr K (He.ga K "Span") "rows" := He.noat_ok (G.says.d.fact 32 (f := .noat "Span" "rows") rfl)
theorem Glb.m_Span_modulus (G : Glb w K mg base) : Meth K (He.ga K "Span") "modulus" (He.ma K (He.ga K "Span") "modulus") := He.meth_ok (G.says.d.fact 33 (f := .meth "Span" "modulus") rfl)
theorem Glb.m_Span_width (G : Glb w K mg base) : Meth K (He.ga K "Span") "width" (He.ma K (He.ga K "Span") "width") := He.meth_ok (G.says.d.fact 34 (f := .meth "Span" "width") rfl)
theorem Glb.m_Span_table (G : Glb w K mg base) : Meth K (He.ga K "Span") "table" (He.ma K (He.ga K "Span") "table") := He.meth_ok (G.says.d.fact 35 (f := .meth "Span" "table") rfl)
theorem Glb.m_Span_size (G : Glb w K mg base) : Meth K (He.ga K "Span") "size" (He.ma K (He.ga K "Span") "size") := He.meth_ok (G.says.d.fact 36 (f := .meth "Span" "size") rfl)
theorem Glb.m_Span_least (G : Glb w K mg base) : Meth K (He.ga K "Span") "least" (He.ma K (He.ga K "Span") "least") := He.meth_ok (G.says.d.fact 37 (f := .meth "Span" "least") rfl)
theorem Glb.m_Span_contains (G : Glb w K mg base) : Meth K (He.ga K "Span") "contains" (He.ma K (He.ga K "Span") "contains") := He.meth_ok (G.says.d.fact 38 (f := .meth "Span" "contains") rfl)
theorem Glb.m_Span_restricted (G : Glb w K mg base) : Meth K (He.ga K "Span") "restricted" (He.ma K (He.ga K "Span") "restricted") := He.meth_ok (G.says.d.fact 39 (f := .meth "Span" "restricted") rfl)
theorem Glb.g_unit_vectors (G : Glb w K mg base) : mg "unit_vectors" = some (.ref (He.ga K "unit_vectors")) := He.glo_ok G.kin G.ns (G.says.d.fact 40 (f := .glo "unit_vectors") rfl)
theorem Glb.g_Coset (G : Glb w K mg base) : mg "Coset" = some (.ref (He.ga K "Coset")) := He.glo_ok G.kin G.ns (G.says.d.fact 41 (f := .glo "Coset") rfl)
theorem Glb.k_Coset (G : Glb w K mg base) : Cls K (He.ga K "Coset") := He.cls_ok (G.says.d.fact 42 (f := .cls "Coset") rfl)
theorem Glb.mk_Coset (G : Glb w K mg base) : Mk K (He.ga K "Coset") (He.ma K (He.ga K "Coset") "__init__") := He.mkr_ok (G.says.d.fact 43 (f := .mkr "Coset") rfl)
theorem Glb.n_Coset_differences (G : Glb w K mg base) : NoAttr K (He.ga K "Coset") "differences" := He.noat_ok (G.says.d.fact 44 (f := .noat "Coset" "differences") rfl)
theorem Glb.n_Coset_least_member (G : Glb w K mg base) : NoAttr K (He.ga K "Coset") "least_member" := He.noat_ok (G.says.d.fact 45 (f := .noat "Coset" "least_member") rfl)
theorem Glb.m_Coset_base (G : Glb w K mg base) : Meth K (He.ga K "Coset") "base" (He.ma K (He.ga K "Coset") "base") := He.meth_ok (G.says.d.fact 46 (f := .meth "Coset" "base") rfl)
theorem Glb.m_Coset_span (G : Glb w K mg base) : Meth K (He.ga K "Coset") "span" (He.ma K (He.ga K "Coset") "span") := He.meth_ok (G.says.d.fact 47 (f := .meth "Coset" "span") rfl)
theorem Glb.m_Coset_size (G : Glb w K mg base) : Meth K (He.ga K "Coset") "size" (He.ma K (He.ga K "Coset") "size") := He.meth_ok (G.says.d.fact 48 (f := .meth "Coset" "size") rfl)
theorem Glb.m_Coset_contains (G : Glb w K mg base) : Meth K (He.ga K "Coset") "contains" (He.ma K (He.ga K "Coset") "contains") := He.meth_ok (G.says.d.fact 49 (f := .meth "Coset" "contains") rfl)
theorem Glb.m_Coset_known (G : Glb w K mg base) : Meth K (He.ga K "Coset") "known" (He.ma K (He.ga K "Coset") "known") := He.meth_ok (G.says.d.fact 50 (f := .meth "Coset" "known") rfl)
theorem Glb.m_Coset_step_towards (G : Glb w K mg base) : Meth K (He.ga K "Coset") "step_towards" (He.ma K (He.ga K "Coset") "step_towards") := He.meth_ok (G.says.d.fact 51 (f := .meth "Coset" "step_towards") rfl)
theorem Glb.m_Coset_restricted (G : Glb w K mg base) : Meth K (He.ga K "Coset") "restricted" (He.ma K (He.ga K "Coset") "restricted") := He.meth_ok (G.says.d.fact 52 (f := .meth "Coset" "restricted") rfl)
theorem Glb.g_window_named (G : Glb w K mg base) : mg "window_named" = some (.ref (He.ga K "window_named")) := He.glo_ok G.kin G.ns (G.says.d.fact 53 (f := .glo "window_named") rfl)
theorem Glb.g_part_window (G : Glb w K mg base) : mg "part_window" = some (.ref (He.ga K "part_window")) := He.glo_ok G.kin G.ns (G.says.d.fact 54 (f := .glo "part_window") rfl)
theorem Glb.g_check_part (G : Glb w K mg base) : mg "check_part" = some (.ref (He.ga K "check_part")) := He.glo_ok G.kin G.ns (G.says.d.fact 55 (f := .glo "check_part") rfl)
theorem Glb.g_branches (G : Glb w K mg base) : mg "branches" = some (.ref (He.ga K "branches")) := He.glo_ok G.kin G.ns (G.says.d.fact 56 (f := .glo "branches") rfl)
theorem Glb.g_leaves (G : Glb w K mg base) : mg "leaves" = some (.ref (He.ga K "leaves")) := He.glo_ok G.kin G.ns (G.says.d.fact 57 (f := .glo "leaves") rfl)
theorem Glb.g_are_moves (G : Glb w K mg base) : mg "are_moves" = some (.ref (He.ga K "are_moves")) := He.glo_ok G.kin G.ns (G.says.d.fact 58 (f := .glo "are_moves") rfl)
theorem Glb.g_is_window (G : Glb w K mg base) : mg "is_window" = some (.ref (He.ga K "is_window")) := He.glo_ok G.kin G.ns (G.says.d.fact 59 (f := .glo "is_window") rfl)
theorem Glb.g_Cabinet (G : Glb w K mg base) : mg "Cabinet" = some (.ref (He.ga K "Cabinet")) := He.glo_ok G.kin G.ns (G.says.d.fact 60 (f := .glo "Cabinet") rfl)
theorem Glb.k_Cabinet (G : Glb w K mg base) : Cls K (He.ga K "Cabinet") := He.cls_ok (G.says.d.fact 61 (f := .cls "Cabinet") rfl)
theorem Glb.mk_Cabinet (G : Glb w K mg base) : Mk K (He.ga K "Cabinet") (He.ma K (He.ga K "Cabinet") "__init__") := He.mkr_ok (G.says.d.fact 62 (f := .mkr "Cabinet") rfl)
theorem Glb.n_Cabinet_own_modulus (G : Glb w K mg base) : NoAttr K (He.ga K "Cabinet") "own_modulus" := He.noat_ok (G.says.d.fact 63 (f := .noat "Cabinet" "own_modulus") rfl)
theorem Glb.n_Cabinet_wheel_count (G : Glb w K mg base) : NoAttr K (He.ga K "Cabinet") "wheel_count" := He.noat_ok (G.says.d.fact 64 (f := .noat "Cabinet" "wheel_count") rfl)
theorem Glb.n_Cabinet_mark_count (G : Glb w K mg base) : NoAttr K (He.ga K "Cabinet") "mark_count" := He.noat_ok (G.says.d.fact 65 (f := .noat "Cabinet" "mark_count") rfl)
theorem Glb.n_Cabinet_window_list (G : Glb w K mg base) : NoAttr K (He.ga K "Cabinet") "window_list" := He.noat_ok (G.says.d.fact 66 (f := .noat "Cabinet" "window_list") rfl)
theorem Glb.m_Cabinet_modulus (G : Glb w K mg base) : Meth K (He.ga K "Cabinet") "modulus" (He.ma K (He.ga K "Cabinet") "modulus") := He.meth_ok (G.says.d.fact 67 (f := .meth "Cabinet" "modulus") rfl)
theorem Glb.m_Cabinet_wheels (G : Glb w K mg base) : Meth K (He.ga K "Cabinet") "wheels" (He.ma K (He.ga K "Cabinet") "wheels") := He.meth_ok (G.says.d.fact 68 (f := .meth "Cabinet" "wheels") rfl)
theorem Glb.m_Cabinet_windows (G : Glb w K mg base) : Meth K (He.ga K "Cabinet") "windows" (He.ma K (He.ga K "Cabinet") "windows") := He.meth_ok (G.says.d.fact 69 (f := .meth "Cabinet" "windows") rfl)
theorem Glb.g_law_bag (G : Glb w K mg base) : mg "_law_bag" = some (.ref (He.ga K "_law_bag")) := He.glo_ok G.kin G.ns (G.says.d.fact 70 (f := .glo "_law_bag") rfl)
theorem Glb.g_law_take (G : Glb w K mg base) : mg "_law_take" = some (.ref (He.ga K "_law_take")) := He.glo_ok G.kin G.ns (G.says.d.fact 71 (f := .glo "_law_take") rfl)
theorem Glb.g_law_alike (G : Glb w K mg base) : mg "_law_alike" = some (.ref (He.ga K "_law_alike")) := He.glo_ok G.kin G.ns (G.says.d.fact 72 (f := .glo "_law_alike") rfl)
theorem Glb.g_law_names (G : Glb w K mg base) : mg "_law_names" = some (.ref (He.ga K "_law_names")) := He.glo_ok G.kin G.ns (G.says.d.fact 73 (f := .glo "_law_names") rfl)
theorem Glb.g_law_divisors (G : Glb w K mg base) : mg "_law_divisors" = some (.ref (He.ga K "_law_divisors")) := He.glo_ok G.kin G.ns (G.says.d.fact 74 (f := .glo "_law_divisors") rfl)
theorem Glb.g_law_windows (G : Glb w K mg base) : mg "_law_windows" = some (.ref (He.ga K "_law_windows")) := He.glo_ok G.kin G.ns (G.says.d.fact 75 (f := .glo "_law_windows") rfl)
theorem Glb.g_law_small (G : Glb w K mg base) : mg "_law_small" = some (.ref (He.ga K "_law_small")) := He.glo_ok G.kin G.ns (G.says.d.fact 76 (f := .glo "_law_small") rfl)
theorem Glb.g_law_vector (G : Glb w K mg base) : mg "_law_vector" = some (.ref (He.ga K "_law_vector")) := He.glo_ok G.kin G.ns (G.says.d.fact 77 (f := .glo "_law_vector") rfl)
theorem Glb.g_law_look (G : Glb w K mg base) : mg "_law_look" = some (.ref (He.ga K "_law_look")) := He.glo_ok G.kin G.ns (G.says.d.fact 78 (f := .glo "_law_look") rfl)
theorem Glb.g_law_product (G : Glb w K mg base) : mg "_law_product" = some (.ref (He.ga K "_law_product")) := He.glo_ok G.kin G.ns (G.says.d.fact 79 (f := .glo "_law_product") rfl)
theorem Glb.g_law_vectors (G : Glb w K mg base) : mg "_law_vectors" = some (.ref (He.ga K "_law_vectors")) := He.glo_ok G.kin G.ns (G.says.d.fact 80 (f := .glo "_law_vectors") rfl)
theorem Glb.g_law_members (G : Glb w K mg base) : mg "_law_members" = some (.ref (He.ga K "_law_members")) := He.glo_ok G.kin G.ns (G.says.d.fact 81 (f := .glo "_law_members") rfl)
theorem Glb.g_law_cabinet (G : Glb w K mg base) : mg "_law_cabinet" = some (.ref (He.ga K "_law_cabinet")) := He.glo_ok G.kin G.ns (G.says.d.fact 82 (f := .glo "_law_cabinet") rfl)
theorem Glb.g_law_moved (G : Glb w K mg base) : mg "_law_moved" = some (.ref (He.ga K "_law_moved")) := He.glo_ok G.kin G.ns (G.says.d.fact 83 (f := .glo "_law_moved") rfl)
theorem Glb.g_law_unknown_span (G : Glb w K mg base) : mg "_law_unknown_span" = some (.ref (He.ga K "_law_unknown_span")) := He.glo_ok G.kin G.ns (G.says.d.fact 84 (f := .glo "_law_unknown_span") rfl)
theorem Glb.g_law_gcd (G : Glb w K mg base) : mg "_law_gcd" = some (.ref (He.ga K "_law_gcd")) := He.glo_ok G.kin G.ns (G.says.d.fact 85 (f := .glo "_law_gcd") rfl)
theorem Glb.g_law_great (G : Glb w K mg base) : mg "_law_great" = some (.ref (He.ga K "_law_great")) := He.glo_ok G.kin G.ns (G.says.d.fact 86 (f := .glo "_law_great") rfl)
theorem Glb.g_law_great_cabinet (G : Glb w K mg base) : mg "_law_great_cabinet" = some (.ref (He.ga K "_law_great_cabinet")) := He.glo_ok G.kin G.ns (G.says.d.fact 87 (f := .glo "_law_great_cabinet") rfl)
theorem Glb.g_law_hermite (G : Glb w K mg base) : mg "_law_hermite" = some (.ref (He.ga K "_law_hermite")) := He.glo_ok G.kin G.ns (G.says.d.fact 88 (f := .glo "_law_hermite") rfl)
theorem Glb.g_law_reduced (G : Glb w K mg base) : mg "_law_reduced" = some (.ref (He.ga K "_law_reduced")) := He.glo_ok G.kin G.ns (G.says.d.fact 89 (f := .glo "_law_reduced") rfl)
theorem Glb.g_law_size (G : Glb w K mg base) : mg "_law_size" = some (.ref (He.ga K "_law_size")) := He.glo_ok G.kin G.ns (G.says.d.fact 90 (f := .glo "_law_size") rfl)
theorem Glb.g_law_coset (G : Glb w K mg base) : mg "_law_coset" = some (.ref (He.ga K "_law_coset")) := He.glo_ok G.kin G.ns (G.says.d.fact 91 (f := .glo "_law_coset") rfl)
theorem Glb.g_law_plan (G : Glb w K mg base) : mg "_law_plan" = some (.ref (He.ga K "_law_plan")) := He.glo_ok G.kin G.ns (G.says.d.fact 92 (f := .glo "_law_plan") rfl)
theorem Glb.g_law_played (G : Glb w K mg base) : mg "_law_played" = some (.ref (He.ga K "_law_played")) := He.glo_ok G.kin G.ns (G.says.d.fact 93 (f := .glo "_law_played") rfl)
theorem Glb.g_law_first_left (G : Glb w K mg base) : mg "_law_first_left" = some (.ref (He.ga K "_law_first_left")) := He.glo_ok G.kin G.ns (G.says.d.fact 94 (f := .glo "_law_first_left") rfl)
theorem Glb.g_law_divisor (G : Glb w K mg base) : mg "_law_divisor" = some (.ref (He.ga K "_law_divisor")) := He.glo_ok G.kin G.ns (G.says.d.fact 95 (f := .glo "_law_divisor") rfl)
theorem Glb.g_law_leaf_right (G : Glb w K mg base) : mg "_law_leaf_right" = some (.ref (He.ga K "_law_leaf_right")) := He.glo_ok G.kin G.ns (G.says.d.fact 96 (f := .glo "_law_leaf_right") rfl)
theorem Glb.g_law_are_leaves (G : Glb w K mg base) : mg "_law_are_leaves" = some (.ref (He.ga K "_law_are_leaves")) := He.glo_ok G.kin G.ns (G.says.d.fact 97 (f := .glo "_law_are_leaves") rfl)
theorem Glb.g_law_is_refused (G : Glb w K mg base) : mg "_law_is_refused" = some (.ref (He.ga K "_law_is_refused")) := He.glo_ok G.kin G.ns (G.says.d.fact 98 (f := .glo "_law_is_refused") rfl)
theorem Glb.g_law_leaves_right (G : Glb w K mg base) : mg "_law_leaves_right" = some (.ref (He.ga K "_law_leaves_right")) := He.glo_ok G.kin G.ns (G.says.d.fact 99 (f := .glo "_law_leaves_right") rfl)
theorem Glb.g_law_small_right (G : Glb w K mg base) : mg "_law_small_right" = some (.ref (He.ga K "_law_small_right")) := He.glo_ok G.kin G.ns (G.says.d.fact 100 (f := .glo "_law_small_right") rfl)
theorem Glb.g_law_within (G : Glb w K mg base) : mg "_law_within" = some (.ref (He.ga K "_law_within")) := He.glo_ok G.kin G.ns (G.says.d.fact 101 (f := .glo "_law_within") rfl)
theorem Glb.g_law_great_leaf_right (G : Glb w K mg base) : mg "_law_great_leaf_right" = some (.ref (He.ga K "_law_great_leaf_right")) := He.glo_ok G.kin G.ns (G.says.d.fact 102 (f := .glo "_law_great_leaf_right") rfl)
theorem Glb.g_law_great_right (G : Glb w K mg base) : mg "_law_great_right" = some (.ref (He.ga K "_law_great_right")) := He.glo_ok G.kin G.ns (G.says.d.fact 103 (f := .glo "_law_great_right") rfl)
theorem Glb.g_law (G : Glb w K mg base) : mg "law" = some (.ref (He.ga K "law")) := He.glo_ok G.kin G.ns (G.says.d.fact 104 (f := .glo "law") rfl)
theorem Glb.c_LONGEST_NAME (G : Glb w K mg base) : ∃ u, mg "LONGEST_NAME" = some u ∧ RelV (.int 8) u := (He.int_ok G.kin G.ns (G.says.d.fact 105 (f := .int "LONGEST_NAME" 8) rfl)).elim fun t h => ⟨_, h, t, rfl⟩
theorem Glb.c_LEAST_MODULUS (G : Glb w K mg base) : ∃ u, mg "LEAST_MODULUS" = some u ∧ RelV (.int 2) u := (He.int_ok G.kin G.ns (G.says.d.fact 106 (f := .int "LEAST_MODULUS" 2) rfl)).elim fun t h => ⟨_, h, t, rfl⟩
theorem Glb.c_GREATEST_MODULUS (G : Glb w K mg base) : ∃ u, mg "GREATEST_MODULUS" = some u ∧ RelV (.int 60) u := (He.int_ok G.kin G.ns (G.says.d.fact 107 (f := .int "GREATEST_MODULUS" 60) rfl)).elim fun t h => ⟨_, h, t, rfl⟩
theorem Glb.c_GREATEST_WIDTH (G : Glb w K mg base) : ∃ u, mg "GREATEST_WIDTH" = some u ∧ RelV (.int 12) u := (He.int_ok G.kin G.ns (G.says.d.fact 108 (f := .int "GREATEST_WIDTH" 12) rfl)).elim fun t h => ⟨_, h, t, rfl⟩
theorem Glb.c_MAX_VECTORS (G : Glb w K mg base) : ∃ u, mg "MAX_VECTORS" = some u ∧ RelV (.int 500) u := (He.int_ok G.kin G.ns (G.says.d.fact 109 (f := .int "MAX_VECTORS" 500) rfl)).elim fun t h => ⟨_, h, t, rfl⟩
theorem Glb.c_MAX_LOOKS (G : Glb w K mg base) : ∃ u, mg "MAX_LOOKS" = some u ∧ RelV (.int 3) u := (He.int_ok G.kin G.ns (G.says.d.fact 110 (f := .int "MAX_LOOKS" 3) rfl)).elim fun t h => ⟨_, h, t, rfl⟩
theorem Glb.c_MOST_WHEELS (G : Glb w K mg base) : ∃ u, mg "MOST_WHEELS" = some u ∧ RelV (.int 6) u := (He.int_ok G.kin G.ns (G.says.d.fact 111 (f := .int "MOST_WHEELS" 6) rfl)).elim fun t h => ⟨_, h, t, rfl⟩
theorem Glb.c_MOST_MARKS (G : Glb w K mg base) : ∃ u, mg "MOST_MARKS" = some u ∧ RelV (.int 4) u := (He.int_ok G.kin G.ns (G.says.d.fact 112 (f := .int "MOST_MARKS" 4) rfl)).elim fun t h => ⟨_, h, t, rfl⟩
theorem Glb.c_MOST_WINDOWS (G : Glb w K mg base) : ∃ u, mg "MOST_WINDOWS" = some u ∧ RelV (.int 8) u := (He.int_ok G.kin G.ns (G.says.d.fact 113 (f := .int "MOST_WINDOWS" 8) rfl)).elim fun t h => ⟨_, h, t, rfl⟩
theorem Glb.c_LETTERS (G : Glb w K mg base) : ∃ u, mg "LETTERS" = some u ∧ RelV (.str "abcdefghijklmnopqrstuvwxyz") u := (He.str_ok G.kin G.ns (G.says.d.fact 114 (f := .str "LETTERS" "abcdefghijklmnopqrstuvwxyz") rfl)).elim fun t h => ⟨_, h, t, rfl⟩
theorem Glb.f_isinstance (G : Glb w K mg base) : mg "isinstance" = none := He.free_ok G.kin G.ns (G.says.d.fact 115 (f := .free "isinstance") rfl)
theorem Glb.f_int (G : Glb w K mg base) : mg "int" = none := He.free_ok G.kin G.ns (G.says.d.fact 116 (f := .free "int") rfl)
theorem Glb.f_bool (G : Glb w K mg base) : mg "bool" = none := He.free_ok G.kin G.ns (G.says.d.fact 117 (f := .free "bool") rfl)
theorem Glb.f_str (G : Glb w K mg base) : mg "str" = none := He.free_ok G.kin G.ns (G.says.d.fact 118 (f := .free "str") rfl)
theorem Glb.f_len (G : Glb w K mg base) : mg "len" = none := He.free_ok G.kin G.ns (G.says.d.fact 119 (f := .free "len") rfl)
theorem Glb.f_all (G : Glb w K mg base) : mg "all" = none := He.free_ok G.kin G.ns (G.says.d.fact 120 (f := .free "all") rfl)
theorem Glb.f_tuple (G : Glb w K mg base) : mg "tuple" = none := He.free_ok G.kin G.ns (G.says.d.fact 121 (f := .free "tuple") rfl)
theorem Glb.f_list (G : Glb w K mg base) : mg "list" = none := He.free_ok G.kin G.ns (G.says.d.fact 122 (f := .free "list") rfl)
theorem Glb.f_zip (G : Glb w K mg base) : mg "zip" = none := He.free_ok G.kin G.ns (G.says.d.fact 123 (f := .free "zip") rfl)
theorem Glb.f_sum (G : Glb w K mg base) : mg "sum" = none := He.free_ok G.kin G.ns (G.says.d.fact 124 (f := .free "sum") rfl)
theorem Glb.f_range (G : Glb w K mg base) : mg "range" = none := He.free_ok G.kin G.ns (G.says.d.fact 125 (f := .free "range") rfl)
theorem Glb.f_sorted (G : Glb w K mg base) : mg "sorted" = none := He.free_ok G.kin G.ns (G.says.d.fact 126 (f := .free "sorted") rfl)
theorem Glb.f_abs (G : Glb w K mg base) : mg "abs" = none := He.free_ok G.kin G.ns (G.says.d.fact 127 (f := .free "abs") rfl)
theorem Glb.f_enumerate (G : Glb w K mg base) : mg "enumerate" = none := He.free_ok G.kin G.ns (G.says.d.fact 128 (f := .free "enumerate") rfl)
theorem Glb.f_dict (G : Glb w K mg base) : mg "dict" = none := He.free_ok G.kin G.ns (G.says.d.fact 129 (f := .free "dict") rfl)
theorem Glb.f_set (G : Glb w K mg base) : mg "set" = none := He.free_ok G.kin G.ns (G.says.d.fact 130 (f := .free "set") rfl)
theorem Glb.f_repr (G : Glb w K mg base) : mg "repr" = none := He.free_ok G.kin G.ns (G.says.d.fact 131 (f := .free "repr") rfl)
theorem Glb.f_ValueError (G : Glb w K mg base) : mg "ValueError" = none := He.free_ok G.kin G.ns (G.says.d.fact 132 (f := .free "ValueError") rfl)

/-- a def of the module that gives a value -/
theorem cal_mk (G : Glb w K mg base) (i : Nat) {d : He.DefD} (h : fn[i]? = some d) {x : Str} (hx : d.at_ = (x, none)) (hm : mg x = some (.ref (He.ga K x))) (hd : d.dvs K = []) {N ps : List Str} {k : Nat} {sp : Sp} (S : FnScope N ps d.scope) (len : ∀ vs H Q E, sp vs H Q E → vs.length = ps.length)
    (hb : ∀ (kV doc pm : Value) (an : Option Addr) (cdv ct : Value) (us : List Value), us.length = ps.length → bindArgs (PySem.W.fnOf d.name d.qual d.params d.body d.scope .none kV doc pm an cdv ct) ⟨us, []⟩ = pure (ps.zip us))
    (hbody : ∀ (f : Addr) (cdv : Value) (A : Around) (outer : List Env) (s : Shared) (H : Hp) (vs : List V) (Q : VK) (E : XK), Room k (A.deeper (envOfC d.qual d.scope s.heap.objs.size f cdv)) → sp vs H Q E →
      ∃ t, PSs (cxOf C8.CX0 PP w K mg base N d.qual d.scope f cdv A outer s H E).nox d.body t ∧ t { nx := fun _ H' => Q .non H', rt := Q } (start N vs) H) : C8.Cal PP w K mg base (k + 1) x sp [] := by
  obtain ⟨fd, F⟩ := G.says.d.def_ i h
  rw [hd] at F
  rw [hx] at F
  refine ⟨He.ga K x, fd, ps, [], F.ok S len (fun cdv A outer s H vs Q E hr hsp => ?_), hm, F.kp, F.bindsN hb, .nil⟩
  obtain ⟨t, h1, h2⟩ := hbody _ cdv A outer s H vs Q E hr hsp
  exact ⟨t, h1.nox, h2⟩
/-- a method -/
theorem met_mk (G : Glb w K mg base) (i : Nat) {d : He.DefD} (h : fn[i]? = some d) {x m : Str} (hx : d.at_ = (x, some m)) (hc : Cls K (He.ga K x)) (hm : Meth K (He.ga K x) m (He.ma K (He.ga K x) m)) (hd : d.dvs K = []) {N ps : List Str} {k : Nat} {sp : Sp} (S : FnScope N ps d.scope)
    (len : ∀ vs H Q E, sp vs H Q E → vs.length = ps.length)
    (hb : ∀ (kV doc pm : Value) (an : Option Addr) (cdv ct : Value) (us : List Value), us.length = ps.length → bindArgs (PySem.W.fnOf d.name d.qual d.params d.body d.scope .none kV doc pm an cdv ct) ⟨us, []⟩ = pure (ps.zip us))
    (hbody : ∀ (f : Addr) (cdv : Value) (A : Around) (outer : List Env) (s : Shared) (H : Hp) (vs : List V) (Q : VK) (E : XK), Room k (A.deeper (envOfC d.qual d.scope s.heap.objs.size f cdv)) → sp vs H Q E →
      ∃ t, PSs (cxOf C8.CX0 PP w K mg base N d.qual d.scope f cdv A outer s H E).nox d.body t ∧ t { nx := fun _ H' => Q .non H', rt := Q } (start N vs) H) : C8.Met PP w K mg base (k + 1) (He.ga K x) m sp [] := by
  obtain ⟨fd, F⟩ := G.says.d.def_ i h
  rw [hd] at F
  rw [hx] at F
  refine ⟨He.ma K (He.ga K x) m, fd, ps, [], hc, hm, F.ok S len (fun cdv A outer s H vs Q E hr hsp => ?_), F.bindsN hb, .nil⟩
  obtain ⟨t, h1, h2⟩ := hbody _ cdv A outer s H vs Q E hr hsp
  exact ⟨t, h1.nox, h2⟩
/-- a class -/
theorem mak_mk (G : Glb w K mg base) (i : Nat) {d : He.DefD} (h : fn[i]? = some d) {x : Str} (hx : d.at_ = (x, some ("__init__" : Str))) (hm : Mk K (He.ga K x) (He.ma K (He.ga K x) "__init__")) (hg : mg x = some (.ref (He.ga K x))) (hd : d.dvs K = []) {N ps : List Str} {k : Nat} {sp : Sp} (S : FnScope N ps d.scope)
    (len : ∀ vs H Q E, sp vs H Q E → vs.length = ps.length)
    (hb : ∀ (kV doc pm : Value) (an : Option Addr) (cdv ct : Value) (us : List Value), us.length = ps.length → bindArgs (PySem.W.fnOf d.name d.qual d.params d.body d.scope .none kV doc pm an cdv ct) ⟨us, []⟩ = pure (ps.zip us))
    (hbody : ∀ (f : Addr) (cdv : Value) (A : Around) (outer : List Env) (s : Shared) (H : Hp) (vs : List V) (Q : VK) (E : XK), Room k (A.deeper (envOfC d.qual d.scope s.heap.objs.size f cdv)) → sp vs H Q E →
      ∃ t, PSs (cxOf C8.CX0 PP w K mg base N d.qual d.scope f cdv A outer s H E).nox d.body t ∧ t { nx := fun _ H' => Q .non H', rt := Q } (start N vs) H) : C8.Mak PP w K mg base (k + 1) x (He.ga K x) sp [] := by
  obtain ⟨fd, F⟩ := G.says.d.def_ i h
  rw [hd] at F
  rw [hx] at F
  refine ⟨He.ma K (He.ga K x) "__init__", fd, ps, [], hm, F.ok S len (fun cdv A outer s H vs Q E hr hsp => ?_), hg, F.bindsN hb, .nil⟩
  obtain ⟨t, h1, h2⟩ := hbody _ cdv A outer s H vs Q E hr hsp
  exact ⟨t, h1.nox, h2⟩
end

/-! ### built-ins, operators on data -/
section
variable {K : PySem.W.Frag} {M : List Addr} {σ : L2.St} {H H' : Hp} {ta tb tc te tx : TE} {t u : TT} {x y z v : V} {d d1 d2 : PyData} {b c : Bool} {i j : Int} {T U : Ty} {Ts Us : List Ty} {to : TE}
theorem ea_one (h : ED K M te σ H d) : EA K M (tCons te tNil) σ H [d] := ea_cons h ea_nil
theorem ega_one (h : EG M te σ H T) : EGA M (tCons te tNil) σ H [T] := ega_cons h ega_nil
theorem lenV_l {a : Addr} {xs : List V} (h : SqL K H a xs) : LenV K (.ref a) H xs.length := .inl ⟨xs, h, rfl⟩
theorem lenV_t {a : Addr} {xs : List V} (h : SqT K H a xs) : LenV K (.ref a) H xs.length := .inr ⟨xs, h, rfl⟩
theorem eg_len (h : EG M te σ H (tyL K Ts)) : ED K M (tCB (fun xs H Q => ∃ x n, xs = [x] ∧ LenV K x H n ∧ Q (.int n) H) (tCons te tNil)) σ H (.int (Ts.length : Int)) := fun hM H1 e Q q =>
  h hM H1 e _ fun v H2 e2 ⟨a, xs, ea, hs, hx⟩ => ⟨v, xs.length, rfl, by rw [ea]; exact lenV_l (ex_l (hide_sub _ _) hs), q _ H2 e2 (by rw [hx.len]; exact .int _)⟩
theorem eg_lenU (h : EG M te σ H (tyU K Ts)) : ED K M (tCB (fun xs H Q => ∃ x n, xs = [x] ∧ LenV K x H n ∧ Q (.int n) H) (tCons te tNil)) σ H (.int (Ts.length : Int)) := fun hM H1 e Q q =>
  h hM H1 e _ fun v H2 e2 ⟨a, xs, ea, hs, hx⟩ => ⟨v, xs.length, rfl, by rw [ea]; exact lenV_t (ex_t (hide_sub _ _) hs), q _ H2 e2 (by rw [hx.len]; exact .int _)⟩
theorem EG.l {ds : List PyData} (h : ED K M te σ H (.list ds)) : EG M te σ H (tyL K (ds.map (dat K))) := h.eg.wk fun _ _ hv => dp_tyL hv
theorem EG.ut {ds : List PyData} (h : ED K M te σ H (.tuple ds)) : EG M te σ H (tyU K (ds.map (dat K))) := h.eg.wk fun _ _ hv => dp_tyU hv
theorem EG.dl {ds : List PyData} (h : EG M te σ H (tyL K (ds.map (dat K)))) : ED K M te σ H (.list ds) := (h.wk (U := dat K (.list ds)) fun _ _ hv => tyL_dp hv).ed
theorem EG.du {ds : List PyData} (h : EG M te σ H (tyU K (ds.map (dat K)))) : ED K M te σ H (.tuple ds) := (h.wk (U := dat K (.tuple ds)) fun _ _ hv => tyU_dp hv).ed
theorem ed_len {ds : List PyData} (h : ED K M te σ H (.list ds)) : ED K M (tCB (fun xs H Q => ∃ x n, xs = [x] ∧ LenV K x H n ∧ Q (.int n) H) (tCons te tNil)) σ H (.int (ds.length : Int)) := (eg_len (EG.l h)).to (by rw [List.length_map])
theorem ed_lenU {ds : List PyData} (h : ED K M te σ H (.tuple ds)) : ED K M (tCB (fun xs H Q => ∃ x n, xs = [x] ∧ LenV K x H n ∧ Q (.int n) H) (tCons te tNil)) σ H (.int (ds.length : Int)) := (eg_lenU (EG.ut h)).to (by rw [List.length_map])
theorem ed_lenS {s : Str} (hs : s.length ≤ sizeLine) (h : ED K M te σ H (.str s)) : ED K M (tCB (fun xs H Q => ∃ x n, xs = [x] ∧ LenV K x H n ∧ Q (.int n) H) (tCons te tNil)) σ H (.int (s.length : Int)) := fun hM H1 e Q q =>
  h hM H1 e _ fun v H2 e2 hv => ⟨v, s.length, rfl, by rw [dp_str hv]; exact ⟨hs, rfl⟩, q _ H2 e2 (.int _)⟩
/-- tuple(list) -/
theorem eg_tupleOf (h : EG M te σ H (tyL K Ts)) : EG M (tCB (fun xs H Q => ∃ p ys, xs = [.ref p] ∧ ((SqL K H p ys ∧ ∀ l, H l = none → Q (.ref l) (upd H l (.tup ys))) ∨ (SqT K H p ys ∧ Q (.ref p) H))) (tCons te tNil)) σ H (tyU K Ts) := fun hM H1 e Q q =>
  h hM H1 e _ fun v H2 e2 ⟨a, xs, ea, hs, hx⟩ => ⟨a, xs, by rw [ea], .inl ⟨ex_l (hide_sub _ _) hs, fun l hl => q _ _ (e2.trans (Ex.new hl)) ⟨l, xs, rfl, st_of (by rw [hide_out ((hM.ex (e.trans e2)).new hl)]; exact upd_same), hx.up (new_ex hl)⟩⟩⟩
theorem ed_tupleOf {ds : List PyData} (h : ED K M te σ H (.list ds)) : ED K M (tCB (fun xs H Q => ∃ p ys, xs = [.ref p] ∧ ((SqL K H p ys ∧ ∀ l, H l = none → Q (.ref l) (upd H l (.tup ys))) ∨ (SqT K H p ys ∧ Q (.ref p) H))) (tCons te tNil)) σ H (.tuple ds) := EG.du (eg_tupleOf (EG.l h))
/-- list(list), list(tuple) -/
theorem eg_listOf (h : EG M te σ H (tyL K Ts)) : EG M (tCB (fun xs H Q => ∃ p ys, xs = [.ref p] ∧ (SqL K H p ys ∨ SqT K H p ys) ∧ ∀ l, H l = none → Q (.ref l) (upd H l (.lst ys))) (tCons te tNil)) σ H (tyL K Ts) := fun hM H1 e Q q =>
  h hM H1 e _ fun v H2 e2 ⟨a, xs, ea, hs, hx⟩ => ⟨a, xs, by rw [ea], .inl (ex_l (hide_sub _ _) hs), fun l hl => q _ _ (e2.trans (Ex.new hl)) ⟨l, xs, rfl, sq_of (by rw [hide_out ((hM.ex (e.trans e2)).new hl)]; exact upd_same), hx.up (new_ex hl)⟩⟩
theorem eg_listOfU (h : EG M te σ H (tyU K Ts)) : EG M (tCB (fun xs H Q => ∃ p ys, xs = [.ref p] ∧ (SqL K H p ys ∨ SqT K H p ys) ∧ ∀ l, H l = none → Q (.ref l) (upd H l (.lst ys))) (tCons te tNil)) σ H (tyL K Ts) := fun hM H1 e Q q =>
  h hM H1 e _ fun v H2 e2 ⟨a, xs, ea, hs, hx⟩ => ⟨a, xs, by rw [ea], .inr (ex_t (hide_sub _ _) hs), fun l hl => q _ _ (e2.trans (Ex.new hl)) ⟨l, xs, rfl, sq_of (by rw [hide_out ((hM.ex (e.trans e2)).new hl)]; exact upd_same), hx.up (new_ex hl)⟩⟩
theorem ed_listOf {ds : List PyData} (h : ED K M te σ H (.list ds)) : ED K M (tCB (fun xs H Q => ∃ p ys, xs = [.ref p] ∧ (SqL K H p ys ∨ SqT K H p ys) ∧ ∀ l, H l = none → Q (.ref l) (upd H l (.lst ys))) (tCons te tNil)) σ H (.list ds) := EG.dl (eg_listOf (EG.l h))
theorem ed_listOfU {ds : List PyData} (h : ED K M te σ H (.tuple ds)) : ED K M (tCB (fun xs H Q => ∃ p ys, xs = [.ref p] ∧ (SqL K H p ys ∨ SqT K H p ys) ∧ ∀ l, H l = none → Q (.ref l) (upd H l (.lst ys))) (tCons te tNil)) σ H (.list ds) := EG.dl (eg_listOfU (EG.ut h))
theorem ed_int1 (h : ED K M te σ H (.int i)) : ED K M (tCB (fun xs H Q => (∃ i, xs = [.int i] ∧ Q (.int i) H) ∨ ∃ k, xs = [.bl k] ∧ Q (.int (if k then 1 else 0)) H) (tCons te tNil)) σ H (.int i) := fun hM H1 e Q q =>
  h hM H1 e _ fun v H2 e2 hv => .inl ⟨i, by rw [dp_int hv], q _ H2 e2 (.int _)⟩
theorem ed_intB (h : ED K M te σ H (.bool b)) : ED K M (tCB (fun xs H Q => (∃ i, xs = [.int i] ∧ Q (.int i) H) ∨ ∃ k, xs = [.bl k] ∧ Q (.int (if k then 1 else 0)) H) (tCons te tNil)) σ H (.int (if b then 1 else 0)) := fun hM H1 e Q q =>
  h hM H1 e _ fun v H2 e2 hv => .inr ⟨b, by rw [dp_bl hv], q _ H2 e2 (.int _)⟩
theorem ed_abs (h : ED K M te σ H (.int i)) : ED K M (tCB (fun xs H Q => ∃ i, xs = [.int i] ∧ Q (.int (if i < 0 then -i else i)) H) (tCons te tNil)) σ H (.int (if i < 0 then -i else i)) := fun hM H1 e Q q =>
  h hM H1 e _ fun v H2 e2 hv => ⟨i, by rw [dp_int hv], q _ H2 e2 (.int _)⟩
theorem ed_sum {ns : List Int} (h : ED K M te σ H (.list (ns.map .int))) : ED K M (tCB (rSum K) (tCons te tNil)) σ H (.int ns.sum) := fun hM H1 e Q q =>
  h hM H1 e _ fun v H2 e2 hv => by
    obtain ⟨a, xs, ea, hs, hx⟩ := dp_lst hv
    rw [dpAll_ints_eq hx] at hs
    exact ⟨a, ns, by rw [ea], ex_l (hide_sub _ _) hs, q _ H2 e2 (.int _)⟩
theorem ed_all {bs : List Bool} (h : ED K M te σ H (.list (bs.map .bool))) : ED K M (tCB (rAll K) (tCons te tNil)) σ H (.bool (bs.all id)) := fun hM H1 e Q q =>
  h hM H1 e _ fun v H2 e2 hv => by
    obtain ⟨a, xs, ea, hs, hx⟩ := dp_lst hv
    rw [dpAll_bls_eq hx] at hs
    exact ⟨a, bs, by rw [ea], ex_l (hide_sub _ _) hs, q _ H2 e2 (.bl _)⟩
/-- slices -/
def cutT {α : Type} (xs : List α) (lo hi : Option Int) : List α := (xs.drop (HT.sIx xs.length 0 lo)).take (HT.sIx xs.length xs.length hi - HT.sIx xs.length 0 lo)
theorem AllT.cut {xs : List V} (h : AllT H xs Ts) (lo hi : Option Int) : AllT H (cutV xs lo hi) (cutT Ts lo hi) := by
  unfold cutV cutT
  rw [h.len]
  exact (h.drop _).take _
theorem eg_slL {lo hi : Option Int} {tl th : TO} (h : EG M te σ H (tyL K Ts)) (h1 : ∀ H1, Ex H H1 → EO tl σ H1 lo) (h2 : ∀ H1, Ex H H1 → EO th σ H1 hi) : EG M (L2.tSl (rSlL K) te tl th) σ H (tyL K (cutT Ts lo hi)) := fun hM H1 e Q q =>
  h hM H1 e _ fun v H2 e2 ⟨a, xs, ea, hs, hx⟩ => h1 H2 (e.trans e2) H2 (Ex.refl _) _ fun H3 e3 => h2 H3 ((e.trans e2).trans e3) H3 (Ex.refl _) _ fun H4 e4 => by
    have e24 := e3.trans e4
    have e04 := (e.trans e2).trans e24
    refine ⟨a, xs, ea, ex_l (hide_sub _ _) (ex_l (hide_ex e24) hs), fun p hp => q _ _ ((e2.trans e24).trans (Ex.new hp)) ⟨p, _, rfl, sq_of (by rw [hide_out ((hM.ex e04).new hp)]; exact upd_same), ((hx.up (hide_ex e24)).up (new_ex hp)).cut lo hi⟩⟩
theorem eg_slU {lo hi : Option Int} {tl th : TO} (h : EG M te σ H (tyU K Ts)) (h1 : ∀ H1, Ex H H1 → EO tl σ H1 lo) (h2 : ∀ H1, Ex H H1 → EO th σ H1 hi) : EG M (L2.tSl (rSlA K) te tl th) σ H (tyU K (cutT Ts lo hi)) := fun hM H1 e Q q =>
  h hM H1 e _ fun v H2 e2 ⟨a, xs, ea, hs, hx⟩ => h1 H2 (e.trans e2) H2 (Ex.refl _) _ fun H3 e3 => h2 H3 ((e.trans e2).trans e3) H3 (Ex.refl _) _ fun H4 e4 => by
    have e24 := e3.trans e4
    have e04 := (e.trans e2).trans e24
    refine ⟨a, xs, ea, ex_t (hide_sub _ _) (ex_t (hide_ex e24) hs), fun w => q _ _ (e2.trans e24) ⟨a, xs, rfl, ex_t (hide_ex e24) hs, ?_⟩, fun w p hp => q _ _ ((e2.trans e24).trans (Ex.new hp)) ⟨p, _, rfl, st_of (by rw [hide_out ((hM.ex e04).new hp)]; exact upd_same), ((hx.up (hide_ex e24)).up (new_ex hp)).cut lo hi⟩⟩
    have : cutT Ts lo hi = Ts := by
      unfold cutT
      rw [← hx.len, w.1, w.2]
      simp [hx.len]
    rw [this]
    exact hx.up (hide_ex e24)
theorem cutT_map {α β : Type} (f : α → β) (xs : List α) (lo hi : Option Int) : cutT (xs.map f) lo hi = (cutT xs lo hi).map f := by
  unfold cutT
  rw [List.length_map, List.map_take, List.map_drop]
theorem cutT_to {α : Type} (xs : List α) {n : Nat} (h : n ≤ xs.length) : cutT xs none (some (n : Int)) = xs.take n := by
  have h0 : ¬ ((n : Int) < 0) := by omega
  unfold cutT HT.sIx
  simp [h0, Nat.min_eq_left h]
theorem cutT_up {α : Type} (xs : List α) (n : Nat) : cutT xs none (some (n : Int)) = xs.take n := by
  have h0 : ¬ ((n : Int) < 0) := by omega
  unfold cutT HT.sIx
  simp [h0]
theorem cutT_from {α : Type} (xs : List α) (n : Nat) : cutT xs (some (n : Int)) none = xs.drop n := by
  have h0 : ¬ ((n : Int) < 0) := by omega
  unfold cutT HT.sIx
  simp [h0]
  rcases Nat.le_total n xs.length with z | z
  · rw [Nat.min_eq_left z, List.take_of_length_le (by simp)]
  · rw [Nat.min_eq_right z]
    simp [List.drop_eq_nil_of_le z]
/-- t + u -/
theorem eg_catU (hl : Ts.length + Us.length ≤ 100000) (ha : EG M ta σ H (tyU K Ts)) (hb : EG M tb σ H (tyU K Us)) : EG M (tOp (rCatA K) ta tb) σ H (tyU K (Ts ++ Us)) := fun hM H1 e Q q =>
  ha hM H1 e _ fun x H2 e2 ⟨a, xs, ea, hs, hx⟩ => hb hM H2 (e.trans e2) _ fun y H3 e3 ⟨a2, ys, ea2, gs, gx⟩ => by
    have hx := hx.up (hide_ex e3)
    have hs := ex_t (hide_ex e3) hs
    refine ⟨a, a2, xs, ys, ea, ea2, ex_t (hide_sub _ _) hs, ex_t (hide_sub _ _) gs, by rw [hx.len, gx.len]; exact sz_of hl, fun z => ?_, fun _ z => ?_, fun _ _ p hp => ?_⟩
    · subst z; cases hx
      exact q _ H3 (e2.trans e3) ⟨a2, ys, rfl, gs, gx⟩
    · subst z; cases gx
      exact q _ H3 (e2.trans e3) ⟨a, xs, rfl, hs, by simpa using hx⟩
    · exact q _ _ ((e2.trans e3).trans (Ex.new hp)) ⟨p, _, rfl, st_of (by rw [hide_out ((hM.ex ((e.trans e2).trans e3)).new hp)]; exact upd_same), (hx.app gx).up (new_ex hp)⟩
/-- xs + ys of any lists -/
def rCatS (K : PySem.W.Frag) : R2 := fun x y H Q => ∃ l b xs zs, x = .ref l ∧ y = .ref b ∧ SqL K H l xs ∧ SqL K H b zs ∧ xs.length + zs.length ≤ sizeLine ∧ ∀ p, H p = none → Q (.ref p) (upd H p (.lst (xs ++ zs)))
theorem op_catS {X : Cx} : OpR X (binaryOp .Add) (rCatS X.K) := by
  intro pins s τ H x y v u Q I rx ry ⟨l, b, xs, zs, ex, ey, hH, hB, hz, q⟩
  subst ex ey
  cases rx
  cases ry
  obtain ⟨i1, r1, p1, z1⟩ := I.list hH
  obtain ⟨i2, r2, p2, z2⟩ := I.list hB
  obtain ⟨⟨k1, g1, w1, s1⟩, n1, o1, c1, b1, f1⟩ := p1
  obtain ⟨⟨k2, g2, w2, s2⟩, n2, o2, c2, b2, f2⟩ := p2
  simp only at c1 b1 f1 c2 b2 f2
  subst c1 b1 f1 c2 b2 f2
  have l1 := r1.length
  have l2 := r2.length
  have hlen : i1.toArray.size + i2.toArray.size ≤ sizeLine := by simp only [List.size_toArray]; omega
  refine concat_meets ⟨_, o1, rfl⟩ ⟨_, o2, rfl⟩ noFill_list_add seq_list_add F.slot_list_add F.entry_list_add (F.args_list_add_2 _ _) (PyProof.Rows.list_addW l b i1.toArray i2.toArray n1 n2 none none s1 s2 hlen) ⟨o1, o2, ?_⟩
  have ea : i1.toArray ++ i2.toArray = (i1 ++ i2).toArray := by simp
  rw [ea]
  exact ⟨.ref _, _, I.lnew (t' := s.toks) (r1.append r2) (by simp only [List.length_append]; omega), rfl, q _ I.fresh⟩
theorem eg_catL (hl : Ts.length + Us.length ≤ 100000) (ha : EG M ta σ H (tyL K Ts)) (hb : EG M tb σ H (tyL K Us)) : EG M (tOp (rCatS K) ta tb) σ H (tyL K (Ts ++ Us)) := fun hM H1 e Q q =>
  ha hM H1 e _ fun x H2 e2 ⟨a, xs, ea, hs, hx⟩ => hb hM H2 (e.trans e2) _ fun y H3 e3 ⟨a2, ys, ea2, gs, gx⟩ => by
    have hx := hx.up (hide_ex e3)
    have hs := ex_l (hide_ex e3) hs
    exact ⟨a, a2, xs, ys, ea, ea2, ex_l (hide_sub _ _) hs, ex_l (hide_sub _ _) gs, by rw [hx.len, gx.len]; exact sz_of hl, fun p hp => q _ _ ((e2.trans e3).trans (Ex.new hp)) ⟨p, _, rfl, sq_of (by rw [hide_out ((hM.ex ((e.trans e2).trans e3)).new hp)]; exact upd_same), (hx.app gx).up (new_ex hp)⟩⟩
end
end WL
end
section
set_option Elab.async false
set_option linter.all false
set_option maxRecDepth 100000
set_option maxHeartbeats 4000000
/-! LayD: helpers for the defs. -/
namespace WL
open PySem PySem.Spec PyProof.Rows L2 Evl HeadW
theorem allT1 {H : Hp} {vs : List V} {a : Ty} (h : AllT H vs [a]) : ∃ x, vs = [x] ∧ a.p x H := by
  cases h with
  | cons h1 h => cases h; exact ⟨_, rfl, h1⟩
theorem allT2 {H : Hp} {vs : List V} {a b : Ty} (h : AllT H vs [a, b]) : ∃ x y, vs = [x, y] ∧ a.p x H ∧ b.p y H := by
  cases h with
  | cons h1 h =>
    obtain ⟨y, rfl, h2⟩ := allT1 h
    exact ⟨_, _, rfl, h1, h2⟩
theorem allT3 {H : Hp} {vs : List V} {a b c : Ty} (h : AllT H vs [a, b, c]) : ∃ x y z, vs = [x, y, z] ∧ a.p x H ∧ b.p y H ∧ c.p z H := by
  cases h with
  | cons h1 h =>
    obtain ⟨y, z, rfl, h2, h3⟩ := allT2 h
    exact ⟨_, _, _, rfl, h1, h2, h3⟩
theorem allT4 {H : Hp} {vs : List V} {a b c d : Ty} (h : AllT H vs [a, b, c, d]) : ∃ x y z w, vs = [x, y, z, w] ∧ a.p x H ∧ b.p y H ∧ c.p z H ∧ d.p w H := by
  cases h with
  | cons h1 h =>
    obtain ⟨y, z, w, rfl, h2, h3, h4⟩ := allT3 h
    exact ⟨_, _, _, _, rfl, h1, h2, h3, h4⟩
theorem allT5 {H : Hp} {vs : List V} {a b c d e : Ty} (h : AllT H vs [a, b, c, d, e]) : ∃ x y z w u, vs = [x, y, z, w, u] ∧ a.p x H ∧ b.p y H ∧ c.p z H ∧ d.p w H ∧ e.p u H := by
  cases h with
  | cons h1 h =>
    obtain ⟨y, z, w, u, rfl, h2, h3, h4, h5⟩ := allT4 h
    exact ⟨_, _, _, _, _, rfl, h1, h2, h3, h4, h5⟩
theorem allT6 {H : Hp} {vs : List V} {a b c d e f : Ty} (h : AllT H vs [a, b, c, d, e, f]) : ∃ x y z w u t, vs = [x, y, z, w, u, t] ∧ a.p x H ∧ b.p y H ∧ c.p z H ∧ d.p w H ∧ e.p u H ∧ f.p t H := by
  cases h with
  | cons h1 h =>
    obtain ⟨y, z, w, u, t, rfl, h2, h3, h4, h5, h6⟩ := allT5 h
    exact ⟨_, _, _, _, _, _, rfl, h1, h2, h3, h4, h5, h6⟩
theorem spT_len {R : List Ty → Ty → Prop} {n : Nat} (h : ∀ Ts T, R Ts T → Ts.length = n) : ∀ vs H Q E, SpT R vs H Q E → vs.length = n := fun vs H Q E ⟨M, Ts, T, _, h1, h2, _⟩ => by rw [h1.len]; exact h Ts T h2
/-- small numbers -/
def Sm (v : List Int) : Prop := v.length ≤ 1000 ∧ ∀ a ∈ v, -(2 ^ 40) ≤ a ∧ a ≤ 2 ^ 40
theorem cmulL {i j : Int} (h : -(2 ^ 40) ≤ i ∧ i ≤ 2 ^ 40) : CMul i j := .inl ⟨by omega, by omega⟩
theorem cmulR {i j : Int} (h : -(2 ^ 40) ≤ j ∧ j ≤ 2 ^ 40) : CMul i j := .inr ⟨by omega, by omega⟩
section
variable {w : World} {K : PySem.W.Frag} {mg : Str → Option Value} {base : Heap}
/-- the pair of two numbers that zip gives -/
theorem pair_ints {H : Hp} {v : V} {a b : Int} (h : (tyU K [tI K a, tI K b]).p v H) : ∃ p, v = .ref p ∧ SqT K H p [.int a, .int b] := by
  obtain ⟨p, xs, rfl, hs, hx⟩ := h
  obtain ⟨x, y, rfl, h1, h2⟩ := allT2 hx
  cases dp_int h1
  cases dp_int h2
  exact ⟨p, rfl, hs⟩
theorem zip_map2 {f : Int → Int → Int} (u v : List Int) : ((u.zip v).map fun ab => f ab.1 ab.2) = List.zipWith f u v := by
  induction u generalizing v with
  | nil => rfl
  | cons a u ih => cases v with
    | nil => rfl
    | cons b v => simp [ih]


variable {M : List Addr} {σ : L2.St} {H H' : Hp} {ta tb tc te tx : TE} {u v : List Int} {i j : Nat}
theorem map_ints (u : List Int) : (u.map PyData.int).map (dat K) = u.map fun a => tI K a := by rw [List.map_map]; rfl
theorem EG.ofV (h : ED K M te σ H (dV u)) : EG M te σ H (tyU K (u.map fun a => tI K a)) := (EG.ut h).to (by rw [map_ints])
theorem EG.toV (h : EG M te σ H (tyU K (u.map fun a => tI K a))) : ED K M te σ H (dV u) := EG.du (h.to (by rw [map_ints]))
theorem ei_zipV (ha : ED K M ta σ H (dV u)) (hb : ED K M tb σ H (dV v)) : EI M (RZ.iZipA K (tCons ta (tCons tb tNil))) σ H (u.zip v) (fun ab => tyU K [tI K ab.1, tI K ab.2]) :=
  ei_zip (K := K) (src := u) (srb := v) (ty := fun a => tI K a) (tyb := fun a => tI K a) (ega_cons (EG.ofV ha) (ega_one (EG.ofV hb)))
theorem ed_lcZ {vs : List Nat} (ha : ED K M ta σ H (dV u)) (hb : ED K M tb σ H (dV v)) (hl : u.length ≤ 1000) (f : Int → Int → Int) (hw : ∀ a b, wipe (((wipe σ vs).set i (some (.int a))).set j (some (.int b))) vs = wipe σ vs)
    (ht : ∀ M' H' a b, Ex (hide M H) (hide M' H') → MOk M' H' → a ∈ u → b ∈ v → ED K M' te (((wipe σ vs).set i (some (.int a))).set j (some (.int b))) H' (.int (f a b))) :
    ED K M (tLc (RZ.iZipA K (tCons ta (tCons tb tNil))) (gTup K 2 (gCons (gName i) (gCons (gName j) gNil))) tYes te vs) σ H (.list ((List.zipWith f u v).map .int)) := by
  refine (ed_lcA (K := K) (ei_zipV ha hb) (by rw [List.length_zip]; omega) (fun ab => .int (f ab.1 ab.2)) fun M' H' x ab k ex hM' hi hx => ?_).to (by rw [← zip_map2, List.map_map]; rfl)
  obtain ⟨p, rfl, hp⟩ := pair_ints hx
  have hz := WL.zip_get hi
  exact turn_pair hp (hw _ _) et_yes fun _ => ht M' H' ab.1 ab.2 ex hM' (List.mem_of_getElem? hz.1) (List.mem_of_getElem? hz.2)
/-- a comprehension over a vector, a list of data, a range -/
theorem ed_lcT {α : Type} {src : List α} {vs : List Nat} {tt : TT} {g : α → PyData} (h : ED K M ta σ H (.tuple (src.map g))) (hl : src.length ≤ 90000) (p : α → Bool) (f : α → PyData) (hw : ∀ x, wipe ((wipe σ vs).set i (some x)) vs = wipe σ vs)
    (ht : ∀ M' H' x a, Ex (hide M H) (hide M' H') → MOk M' H' → a ∈ src → Dp K (hide M' H') x (g a) → ET M' tt ((wipe σ vs).set i (some x)) H' (p a))
    (he : ∀ M' H' x a, Ex (hide M H) (hide M' H') → MOk M' H' → a ∈ src → p a = true → Dp K (hide M' H') x (g a) → ED K M' te ((wipe σ vs).set i (some x)) H' (f a)) :
    ED K M (tLc (iTup K ta) (gName i) tt te vs) σ H (.list ((src.filter p).map f)) :=
  ed_lc (K := K) (ei_td h) hl p f fun M' H' x a k ex hM' hi hx => turn_name (hw x) (ht M' H' x a ex hM' (List.mem_of_getElem? hi) hx) fun hp => he M' H' x a ex hM' (List.mem_of_getElem? hi) hp hx
theorem ed_lcL {α : Type} {src : List α} {vs : List Nat} {tt : TT} {g : α → PyData} (h : ED K M ta σ H (.list (src.map g))) (hl : src.length ≤ 90000) (p : α → Bool) (f : α → PyData) (hw : ∀ x, wipe ((wipe σ vs).set i (some x)) vs = wipe σ vs)
    (ht : ∀ M' H' x a, Ex (hide M H) (hide M' H') → MOk M' H' → a ∈ src → Dp K (hide M' H') x (g a) → ET M' tt ((wipe σ vs).set i (some x)) H' (p a))
    (he : ∀ M' H' x a, Ex (hide M H) (hide M' H') → MOk M' H' → a ∈ src → p a = true → Dp K (hide M' H') x (g a) → ED K M' te ((wipe σ vs).set i (some x)) H' (f a)) :
    ED K M (tLc (iList K ta) (gName i) tt te vs) σ H (.list ((src.filter p).map f)) :=
  ed_lc (K := K) (ei_ld h) hl p f fun M' H' x a k ex hM' hi hx => turn_name (hw x) (ht M' H' x a ex hM' (List.mem_of_getElem? hi) hx) fun hp => he M' H' x a ex hM' (List.mem_of_getElem? hi) hp hx
theorem filt_all {α : Type} (l : List α) : l.filter (fun _ => true) = l := List.filter_eq_self.mpr (by simp)
theorem ed_lcT1 {α : Type} {src : List α} {vs : List Nat} {g : α → PyData} (h : ED K M ta σ H (.tuple (src.map g))) (hl : src.length ≤ 90000) (f : α → PyData) (hw : ∀ x, wipe ((wipe σ vs).set i (some x)) vs = wipe σ vs)
    (he : ∀ M' H' x a, Ex (hide M H) (hide M' H') → MOk M' H' → a ∈ src → Dp K (hide M' H') x (g a) → ED K M' te ((wipe σ vs).set i (some x)) H' (f a)) :
    ED K M (tLc (iTup K ta) (gName i) tYes te vs) σ H (.list (src.map f)) := (ed_lcT h hl (fun _ => true) f hw (fun _ _ _ _ _ _ _ _ => et_yes) fun M' H' x a e m h1 _ h2 => he M' H' x a e m h1 h2).to (by rw [filt_all])
theorem ed_lcL1 {α : Type} {src : List α} {vs : List Nat} {g : α → PyData} (h : ED K M ta σ H (.list (src.map g))) (hl : src.length ≤ 90000) (f : α → PyData) (hw : ∀ x, wipe ((wipe σ vs).set i (some x)) vs = wipe σ vs)
    (he : ∀ M' H' x a, Ex (hide M H) (hide M' H') → MOk M' H' → a ∈ src → Dp K (hide M' H') x (g a) → ED K M' te ((wipe σ vs).set i (some x)) H' (f a)) :
    ED K M (tLc (iList K ta) (gName i) tYes te vs) σ H (.list (src.map f)) := (ed_lcL h hl (fun _ => true) f hw (fun _ _ _ _ _ _ _ _ => et_yes) fun M' H' x a e m h1 _ h2 => he M' H' x a e m h1 h2).to (by rw [filt_all])
theorem ed_lcR {vs : List Nat} {tt : TT} {n : Nat} {tg : TA} (h : EA K M tg σ H [.int (n : Int)]) (hl : n ≤ 90000) (p : Nat → Bool) (f : Nat → PyData) (hw : ∀ x, wipe ((wipe σ vs).set i (some x)) vs = wipe σ vs)
    (ht : ∀ M' H' a, Ex (hide M H) (hide M' H') → MOk M' H' → a < n → ET M' tt ((wipe σ vs).set i (some (.int (a : Int)))) H' (p a))
    (he : ∀ M' H' a, Ex (hide M H) (hide M' H') → MOk M' H' → a < n → p a = true → ED K M' te ((wipe σ vs).set i (some (.int (a : Int)))) H' (f a)) :
    ED K M (tLc (iRng1 tg) (gName i) tt te vs) σ H (.list (((List.range n).filter p).map f)) :=
  ed_lc (K := K) (ei_r1 (by omega) h) (by simpa using hl) p f fun M' H' x a k ex hM' hi hx => by
    have ha : a < n := by simpa using List.mem_of_getElem? hi
    cases dp_int hx
    exact turn_name (hw _) (ht M' H' a ex hM' ha) fun hp => he M' H' a ex hM' ha hp
theorem ed_lcR1 {vs : List Nat} {n : Nat} {tg : TA} (h : EA K M tg σ H [.int (n : Int)]) (hl : n ≤ 90000) (f : Nat → PyData) (hw : ∀ x, wipe ((wipe σ vs).set i (some x)) vs = wipe σ vs)
    (he : ∀ M' H' a, Ex (hide M H) (hide M' H') → MOk M' H' → a < n → ED K M' te ((wipe σ vs).set i (some (.int (a : Int)))) H' (f a)) :
    ED K M (tLc (iRng1 tg) (gName i) tYes te vs) σ H (.list ((List.range n).map f)) := (ed_lcR h hl (fun _ => true) f hw (fun _ _ _ _ _ _ => et_yes) fun M' H' a e m h1 _ => he M' H' a e m h1).to (by rw [filt_all])
theorem ed_vec {ns : List Int} (h : ED K M te σ H (.list (ns.map .int))) : ED K M (tCB (fun xs H Q => ∃ p ys, xs = [.ref p] ∧ ((SqL K H p ys ∧ ∀ l, H l = none → Q (.ref l) (upd H l (.tup ys))) ∨ (SqT K H p ys ∧ Q (.ref p) H))) (tCons te tNil)) σ H (dV ns) := ed_tupleOf h
theorem atI_nat' {α : Type} {xs : List α} {k : Nat} {x : α} (h : xs[k]? = some x) : atI xs (k : Int) = some x := by
  have hk : k < xs.length := (List.getElem?_eq_some_iff.mp h).1
  unfold atI ixN
  rw [if_pos (by omega), if_pos (by omega)]
  exact h
theorem atI_last {α : Type} {xs : List α} {x : α} (h : xs.getLast? = some x) : atI xs (-1) = some x := by
  unfold atI ixN
  cases xs with
  | nil => simp at h
  | cons a l =>
    rw [if_neg (by omega), if_pos (by simp; omega)]
    rw [List.getLast?_eq_getElem?] at h
    show (a :: l)[(-1 + ((a :: l).length : Int)).toNat]? = some x
    rw [show (-1 + ((a :: l).length : Int)).toNat = (a :: l).length - 1 by simp; omega]
    exact h
/-- v[k] of a vector -/
theorem ed_at {k : Nat} (hk : k < u.length) (ha : ED K M ta σ H (dV u)) (hb : ED K M tb σ H (.int (k : Int))) : ED K M (tOp (rIxT K) ta tb) σ H (.int (WM.at_ u k)) :=
  ed_ixT (atI_nat' (by rw [List.getElem?_map, WM.at_some hk]; rfl)) ha hb
theorem ed_varI {k : Nat} {i : Int} (h : σ[k]? = some (some (.int i))) : ED K M (tVar k) σ H (.int i) := ed_var h (.int i)

/-! isinstance -/
theorem tyx_l {a : Addr} {xs : List V} (h : SqL K H a xs) : TyX K H (.ref a) (.type "list") := by
  rcases h with (h | ⟨o, h⟩) | ⟨o, its, n, h, hc, _⟩
  · exact .base (.lst h)
  · exact .base (.frz h)
  · exact .kList h hc
theorem tyx_t {a : Addr} {xs : List V} (h : SqT K H a xs) : TyX K H (.ref a) (.type "tuple") := by
  rcases h with (h | ⟨o, h⟩) | ⟨o, its, n, h, hc, _⟩
  · exact .base (.tup h)
  · exact .fTuple h
  · exact .kTuple h hc
/-- the name of a datum's type -/
def tyN : PyData → String
  | .none => "NoneType"
  | .bool _ => "bool"
  | .int _ => "int"
  | .str _ => "str"
  | .list _ => "list"
  | .tuple _ => "tuple"
  | .dict _ => "dict"
theorem tyx_d {x : V} {d : PyData} (h : Dp K H x d) : TyX K H x (.type (tyN d)) := by
  cases h with
  | non => exact .base .non
  | bl b => exact .base (.bl b)
  | int i => exact .base (.int i)
  | str s => exact .base (.str s)
  | lst hs _ => exact tyx_l hs
  | tup hs _ => exact tyx_t hs
theorem TyX.up {x : V} {n : String} {d : PyData} (h : Dp K (hide M H) x d) (e : n = tyN d) : TyX K H x (.type n) := by rw [e]; exact tyx_d (h.mono (hide_sub M H))
theorem ed_isi {d : PyData} {n m : String} {b : Bool} (h : ED K M te σ H d) (e : n = tyN d) (hb : kitB n m = some b) : ED K M (tCB (rIsi K) (tCons te (tCons (tC (.ty m)) tNil))) σ H (.bool b) := fun hM H1 e1 Q q =>
  h hM H1 e1 _ fun x H2 e2 hx => ⟨x, .ty m, .type n, .type m, b, rfl, .ty m, TyX.up hx e, kit_ty hb, q _ H2 e2 (.bl b)⟩
/-- a list of values of any kinds is a list -/
theorem ed_isiL {Ts : List Ty} {m : String} {b : Bool} (h : EG M te σ H (tyL K Ts)) (hb : kitB "list" m = some b) : ED K M (tCB (rIsi K) (tCons te (tCons (tC (.ty m)) tNil))) σ H (.bool b) := fun hM H1 e1 Q q =>
  h hM H1 e1 _ fun x H2 e2 ⟨a, xs, ea, hs, _⟩ => ⟨x, .ty m, .type "list", .type m, b, rfl, .ty m, by rw [ea]; exact tyx_l (ex_l (hide_sub _ _) hs), kit_ty hb, q _ H2 e2 (.bl b)⟩
theorem ed_isiU {Ts : List Ty} {m : String} {b : Bool} (h : EG M te σ H (tyU K Ts)) (hb : kitB "tuple" m = some b) : ED K M (tCB (rIsi K) (tCons te (tCons (tC (.ty m)) tNil))) σ H (.bool b) := fun hM H1 e1 Q q =>
  h hM H1 e1 _ fun x H2 e2 ⟨a, xs, ea, hs, _⟩ => ⟨x, .ty m, .type "tuple", .type m, b, rfl, .ty m, by rw [ea]; exact tyx_t (ex_t (hide_sub _ _) hs), kit_ty hb, q _ H2 e2 (.bl b)⟩
/-- what the answer is, in other words -/
theorem ED.bool {b c : Bool} (h : ED K M te σ H (.bool b)) (e : b = c) : ED K M te σ H (.bool c) := e ▸ h
theorem all_bools {α : Type} (l : List α) (f : α → Bool) : (l.map f).all id = l.all f := by rw [List.all_map]; rfl
theorem ed_allB {α : Type} {l : List α} {f : α → Bool} (h : ED K M te σ H (.list (l.map fun a => .bool (f a)))) : ED K M (tCB (rAll K) (tCons te tNil)) σ H (.bool (l.all f)) :=
  (ed_all (bs := l.map f) (h.to (by rw [List.map_map]; rfl))).bool (all_bools l f)
end
end WL
end
section
set_option Elab.async false
set_option linter.all false
set_option maxRecDepth 100000
set_option maxHeartbeats 4000000
/-! D1: the plain defs. -/
namespace WL
open PySem PySem.Spec PyProof.Rows L2 Evl HeadW
section
variable {w : World} {K : PySem.W.Frag} {mg : Str → Option Value} {base : Heap}
abbrev N_product : List Str := ["one", "other", "modulus", "first", "second"]
theorem sc_product : FnScope N_product ["one", "other", "modulus"] d_product.scope := ⟨rfl, rfl, rfl, by decide +kernel, rfl, by decide +kernel, by decide +kernel⟩
theorem bi_product (kV doc pm : Value) (an : Option Addr) (cdv ct : Value) (us : List Value) (hl : us.length = 3) : bindArgs (PySem.W.fnOf d_product.name d_product.qual d_product.params d_product.body d_product.scope .none kV doc pm an cdv ct) ⟨us, []⟩ = pure ((["one", "other", "modulus"] : List Str).zip us) := by
  match us, hl with
  | [_, _, _], _ => rfl

def R_product (K : PySem.W.Frag) (Ts : List Ty) (T : Ty) : Prop := ∃ (one other : List Int) (m : Int), Ts = [tV K one, tV K other, tI K m] ∧ Sm one ∧ 0 < m ∧ T = tI K (WM.dot one (WM.at_ other) % m)
theorem cal_product (G : Glb w K mg base) : C8.Cal PP w K mg base 1 "product" (SpT (R_product K)) [] :=
  cal_mk G 11 (d := d_product) rfl rfl G.g_product rfl sc_product (spT_len fun Ts T ⟨_, _, _, h, _⟩ => by rw [h]; rfl) bi_product (fun f cdv A outer s H vs Q E hr hsp => by
    obtain ⟨M, Ts, T, hM, hv, ⟨one, other, m, rfl, hs, hm, rfl⟩, hq⟩ := hsp
    obtain ⟨v1, v2, v3, rfl, h1, h2, h3⟩ := allT3 hv
    refine ⟨_, (pss_one (ps_ret (pe_op op_mod (pe_callB (id := "sum") (cr_sum rfl) (by rfl) G.f_sum (by decide +kernel) (pa_cons (pe_lc (own := [("first", 3), ("second", 4)]) (g := (gTup _ 2 (gCons (gName 3) (gCons (gName 4) gNil)))) (tt := tYes) rfl sc_product.nd (RZ.pi_zipA (by rfl) G.f_zip (pa_cons (pv 0) (pa_cons (pv 1) pa_nil))) (blkOk_by (N := N_product) (sc := d_product.scope) (by decide +kernel)) (fun _ _ _ _ _ => (pg_tup rfl (pgs_cons (pg_name (i := 3) sc_product.nd rfl (by first | exact Or.inl rfl | exact Or.inr rfl)) (pgs_cons (pg_name (i := 4) sc_product.nd rfl (by first | exact Or.inl rfl | exact Or.inr rfl)) pgs_nil)))) (fun _ _ _ _ _ => pts_nil) (fun _ _ _ _ _ => (pe_op op_mul (pv 3) (pv 4)))) pa_nil)) (pv 2)))), ?_⟩
    refine sd_ret hM (ed_mod hm (ed_sum (ns := List.zipWith (fun a b => a * b) one other) (ed_lcZ (ed_var rfl h1) (ed_var rfl h2) hs.1 _ (fun _ _ => rfl) ?_)) (ed_var rfl h3)) fun v H1 e h => hq v H1 e (by rw [← WM.dot_list]; exact h)
    exact fun M' H' a b ex hM' ha _ => ed_mul (cmulL (hs.2 a ha)) (ed_var rfl (.int _)) (ed_var rfl (.int _)))
abbrev N_plus_multiple : List Str := ["one", "times", "other", "modulus", "first", "second"]
theorem sc_plus_multiple : FnScope N_plus_multiple ["one", "times", "other", "modulus"] d_plus_multiple.scope := ⟨rfl, rfl, rfl, by decide +kernel, rfl, by decide +kernel, by decide +kernel⟩
theorem bi_plus_multiple (kV doc pm : Value) (an : Option Addr) (cdv ct : Value) (us : List Value) (hl : us.length = 4) : bindArgs (PySem.W.fnOf d_plus_multiple.name d_plus_multiple.qual d_plus_multiple.params d_plus_multiple.body d_plus_multiple.scope .none kV doc pm an cdv ct) ⟨us, []⟩ = pure ((["one", "times", "other", "modulus"] : List Str).zip us) := by
  match us, hl with
  | [_, _, _, _], _ => rfl

def R_plus_multiple (K : PySem.W.Frag) (Ts : List Ty) (T : Ty) : Prop := ∃ (one : List Int) (t : Int) (other : List Int) (m : Int), Ts = [tV K one, tI K t, tV K other, tI K m] ∧ one.length ≤ 1000 ∧ Sm other ∧ 0 < m ∧ T = tV K (List.zipWith (fun a b => (a + t * b) % m) one other)
theorem cal_plus_multiple (G : Glb w K mg base) : C8.Cal PP w K mg base 1 "plus_multiple" (SpT (R_plus_multiple K)) [] :=
  cal_mk G 12 (d := d_plus_multiple) rfl rfl G.g_plus_multiple rfl sc_plus_multiple (spT_len fun Ts T ⟨_, _, _, _, h, _⟩ => by rw [h]; rfl) bi_plus_multiple (fun f cdv A outer s H vs Q E hr hsp => by
    obtain ⟨M, Ts, T, hM, hv, ⟨one, t, other, m, rfl, hl, hs, hm, rfl⟩, hq⟩ := hsp
    obtain ⟨v1, v2, v3, v4, rfl, h1, h2, h3, h4⟩ := allT4 hv
    refine ⟨_, (pss_one (ps_ret (pe_callTy (T := "tuple") call_tuple_of (by rfl) G.f_tuple (by decide +kernel) (pa_cons (pe_lc (own := [("first", 4), ("second", 5)]) (g := (gTup _ 2 (gCons (gName 4) (gCons (gName 5) gNil)))) (tt := tYes) rfl sc_plus_multiple.nd (RZ.pi_zipA (by rfl) G.f_zip (pa_cons (pv 0) (pa_cons (pv 2) pa_nil))) (blkOk_by (N := N_plus_multiple) (sc := d_plus_multiple.scope) (by decide +kernel)) (fun _ _ _ _ _ => (pg_tup rfl (pgs_cons (pg_name (i := 4) sc_plus_multiple.nd rfl (by first | exact Or.inl rfl | exact Or.inr rfl)) (pgs_cons (pg_name (i := 5) sc_plus_multiple.nd rfl (by first | exact Or.inl rfl | exact Or.inr rfl)) pgs_nil)))) (fun _ _ _ _ _ => pts_nil) (fun _ _ _ _ _ => (pe_op op_mod (pe_op op_add (pv 4) (pe_op op_mul (pv 1) (pv 5))) (pv 3)))) pa_nil)))), ?_⟩
    refine sd_ret hM (ed_vec (ed_lcZ (ed_var rfl h1) (ed_var rfl h3) hl _ (fun _ _ => rfl) ?_)) fun v H1 e h => hq v H1 e h
    exact fun M' H' a b ex hM' ha hb => ed_mod hm (ed_add (ed_var rfl (.int _)) (ed_mul (cmulR (hs.2 b hb)) (ed_var rfl (h2.mono ex)) (ed_var rfl (.int _)))) (ed_var rfl (h4.mono ex)))
abbrev N_combine : List Str := ["one", "factor", "other", "other_factor", "modulus", "a", "b"]
theorem sc_combine : FnScope N_combine ["one", "factor", "other", "other_factor", "modulus"] d_combine.scope := ⟨rfl, rfl, rfl, by decide +kernel, rfl, by decide +kernel, by decide +kernel⟩
theorem bi_combine (kV doc pm : Value) (an : Option Addr) (cdv ct : Value) (us : List Value) (hl : us.length = 5) : bindArgs (PySem.W.fnOf d_combine.name d_combine.qual d_combine.params d_combine.body d_combine.scope .none kV doc pm an cdv ct) ⟨us, []⟩ = pure ((["one", "factor", "other", "other_factor", "modulus"] : List Str).zip us) := by
  match us, hl with
  | [_, _, _, _, _], _ => rfl

def R_combine (K : PySem.W.Frag) (Ts : List Ty) (T : Ty) : Prop := ∃ (one : List Int) (a : Int) (other : List Int) (b m : Int), Ts = [tV K one, tI K a, tV K other, tI K b, tI K m] ∧ Sm one ∧ Sm other ∧ 0 < m ∧ T = tV K (WM.comb m a one b other)
theorem cal_combine (G : Glb w K mg base) : C8.Cal PP w K mg base 1 "combine" (SpT (R_combine K)) [] :=
  cal_mk G 13 (d := d_combine) rfl rfl G.g_combine rfl sc_combine (spT_len fun Ts T ⟨_, _, _, _, _, h, _⟩ => by rw [h]; rfl) bi_combine (fun f cdv A outer s H vs Q E hr hsp => by
    obtain ⟨M, Ts, T, hM, hv, ⟨one, a, other, b, m, rfl, hl, hs, hm, rfl⟩, hq⟩ := hsp
    obtain ⟨v1, v2, v3, v4, v5, rfl, h1, h2, h3, h4, h5⟩ := allT5 hv
    refine ⟨_, (pss_one (ps_ret (pe_callTy (T := "tuple") call_tuple_of (by rfl) G.f_tuple (by decide +kernel) (pa_cons (pe_lc (own := [("a", 5), ("b", 6)]) (g := (gTup _ 2 (gCons (gName 5) (gCons (gName 6) gNil)))) (tt := tYes) rfl sc_combine.nd (RZ.pi_zipA (by rfl) G.f_zip (pa_cons (pv 0) (pa_cons (pv 2) pa_nil))) (blkOk_by (N := N_combine) (sc := d_combine.scope) (by decide +kernel)) (fun _ _ _ _ _ => (pg_tup rfl (pgs_cons (pg_name (i := 5) sc_combine.nd rfl (by first | exact Or.inl rfl | exact Or.inr rfl)) (pgs_cons (pg_name (i := 6) sc_combine.nd rfl (by first | exact Or.inl rfl | exact Or.inr rfl)) pgs_nil)))) (fun _ _ _ _ _ => pts_nil) (fun _ _ _ _ _ => (pe_op op_mod (pe_op op_add (pe_op op_mul (pv 1) (pv 5)) (pe_op op_mul (pv 3) (pv 6))) (pv 4)))) pa_nil)))), ?_⟩
    refine sd_ret hM (ed_vec (ed_lcZ (ed_var rfl h1) (ed_var rfl h3) hl.1 _ (fun _ _ => rfl) ?_)) fun v H1 e h => hq v H1 e h
    exact fun M' H' x y ex hM' hx hy => ed_mod hm (ed_add (ed_mul (cmulR (hl.2 x hx)) (ed_var rfl (h2.mono ex)) (ed_var rfl (.int _))) (ed_mul (cmulR (hs.2 y hy)) (ed_var rfl (h4.mono ex)) (ed_var rfl (.int _)))) (ed_var rfl (h5.mono ex)))
abbrev N_lead_within : List Str := ["vector", "width", "index"]
theorem sc_lead_within : FnScope N_lead_within ["vector", "width"] d_lead_within.scope := ⟨rfl, rfl, rfl, by decide +kernel, rfl, by decide +kernel, by decide +kernel⟩
theorem bi_lead_within (kV doc pm : Value) (an : Option Addr) (cdv ct : Value) (us : List Value) (hl : us.length = 2) : bindArgs (PySem.W.fnOf d_lead_within.name d_lead_within.qual d_lead_within.params d_lead_within.body d_lead_within.scope .none kV doc pm an cdv ct) ⟨us, []⟩ = pure ((["vector", "width"] : List Str).zip us) := by
  match us, hl with
  | [_, _], _ => rfl

/-- the place of the first entry that is not 0, or None -/
def leadD (n : Nat) (v : List Int) : PyData := if WM.lead n (WM.at_ v) < n then .int (WM.lead n (WM.at_ v) : Nat) else .none
def R_lead_within (K : PySem.W.Frag) (Ts : List Ty) (T : Ty) : Prop := ∃ (v : List Int) (n : Nat), Ts = [tV K v, tI K n] ∧ n ≤ v.length ∧ n ≤ 1000 ∧ T = dat K (leadD n v)
theorem cal_lead_within (G : Glb w K mg base) : C8.Cal PP w K mg base 1 "lead_within" (SpT (R_lead_within K)) [] :=
  cal_mk G 14 (d := d_lead_within) rfl rfl G.g_lead_within rfl sc_lead_within (spT_len fun Ts T ⟨_, _, h, _⟩ => by rw [h]; rfl) bi_lead_within (fun f cdv A outer s H vs Q E hr hsp => by
    obtain ⟨M, Ts, T, hM, hv, ⟨v, n, rfl, hl, hn, rfl⟩, hq⟩ := hsp
    obtain ⟨v1, v2, rfl, h1, h2⟩ := allT2 hv
    refine ⟨_, (pss_cons (ps_for PassesOwn.never rfl (pi_range1 (by rfl) G.f_range (pa_cons (pv 1) pa_nil)) (pg_name (i := 2) sc_lead_within.nd rfl (by first | exact Or.inl rfl | exact Or.inr rfl)) (pss_one (ps_if (pt_cmpR op_ne (pe_ix ix_tup (pv 0) (pv 2) (fun _ _ => rfl)) pe_int (nomark _)) (pss_one (ps_ret (pv 2))) pss_nil)))
      (pss_one (ps_ret pe_non))), ?_⟩
    refine s_forP hM (ei_r1 (K := K) (n := n) (by omega) (ea_one (ed_var rfl h2))) (fun i σ' H' => (∃ x, σ' = [some v1, some v2, x]) ∧ ∀ j, j < i → WM.at_ v j = 0) (fun H1 e => ⟨⟨none, rfl⟩, fun j hj => absurd hj (Nat.not_lt_zero j)⟩) ?_ ?_
    · rintro H1 i a x σ' H' H2 e e1 hi ⟨⟨x0, rfl⟩, hz⟩ e2 hx
      obtain ⟨hi1, hi2⟩ := List.getElem?_eq_some_iff.mp hi
      simp at hi1 hi2
      subst hi2
      cases dp_int hx
      have e02 := (e.trans e1).trans e2
      refine sd_if (hM.ex e02) (et_test (ed_neI (ed_at (by omega) (ed_var rfl (h1.mono (hide_ex e02))) (ed_varI rfl)) ed_int)) (fun hb H3 e3 => ?_) (fun hb H3 e3 => ?_)
      · simp at hb
        refine sd_ret (K := K) (hM.ex (e02.trans e3)) (ed_varI rfl) fun v' H4 e4 h4 => hq v' H4 ((e02.trans e3).trans e4) ?_
        have hk : WM.lead n (WM.at_ v) = i := WM.lead_eq hi1 hz hb
        unfold leadD
        rw [hk, if_pos hi1]
        exact h4
      · simp at hb
        refine ⟨(e1.trans e2).trans e3, ⟨_, rfl⟩, fun j hj => ?_⟩
        rcases Nat.lt_succ_iff_lt_or_eq.mp hj with q | q
        · exact hz j q
        · rw [q]; exact hb
    · rintro σ' H' e ⟨⟨x0, rfl⟩, hz⟩
      dsimp only
      refine sd_ret (K := K) (hM.ex e) ed_non fun v' H4 e4 h4 => hq v' H4 (e.trans e4) ?_
      have hk : n ≤ WM.lead n (WM.at_ v) := WM.lead_ge (Nat.le_refl n) fun j hj => hz j (by simpa using hj)
      unfold leadD
      rw [if_neg (by omega)]
      exact h4)
abbrev N_bezout : List Str := ["one", "other", "left", "right", "quotient", "rest", "first", "second"]
theorem sc_bezout : FnScope N_bezout ["one", "other"] d_bezout.scope := ⟨rfl, rfl, rfl, by decide +kernel, rfl, by decide +kernel, by decide +kernel⟩
theorem bi_bezout (kV doc pm : Value) (an : Option Addr) (cdv ct : Value) (us : List Value) (hl : us.length = 2) : bindArgs (PySem.W.fnOf d_bezout.name d_bezout.qual d_bezout.params d_bezout.body d_bezout.scope .none kV doc pm an cdv ct) ⟨us, []⟩ = pure ((["one", "other"] : List Str).zip us) := by
  match us, hl with
  | [_, _], _ => rfl

def tBez (K : PySem.W.Frag) (a b : Int) : Ty := ⟨fun v H => ∃ s t : Int, a * s + b * t = (Int.gcd a b : Int) ∧ Dp K H v (.tuple [.int (Int.gcd a b : Int), .int s, .int t]), fun e ⟨s, t, h1, h2⟩ => ⟨s, t, h1, h2.mono e⟩⟩
def R_bezout (K : PySem.W.Frag) (Ts : List Ty) (T : Ty) : Prop := ∃ (a b : Int), Ts = [tI K a, tI K b] ∧ 0 ≤ a ∧ a < 2 ^ 29 ∧ 0 ≤ b ∧ b < 2 ^ 29 ∧ T = tBez K a b
theorem cal_bezout (G : Glb w K mg base) : C8.Cal PP w K mg base 1 "bezout" (SpT (R_bezout K)) [] :=
  cal_mk G 7 (d := d_bezout) rfl rfl G.g_bezout rfl sc_bezout (spT_len fun Ts T ⟨_, _, h, _⟩ => by rw [h]; rfl) bi_bezout (fun f cdv A outer s H vs Q E hr hsp => by
    obtain ⟨M, Ts, T, hM, hv, ⟨a, b, rfl, ha0, ha1, hb0, hb1, rfl⟩, hq⟩ := hsp
    obtain ⟨v1, v2, rfl, h1, h2⟩ := allT2 hv
    refine ⟨_, (pss_cons (ps_par (i := 2) (j := 3) (by rfl) sc_bezout.nd rfl rfl (by decide) rfl rfl (pa_cons (pe_tup (pa_cons (pv 0) (pa_cons pe_int (pa_cons pe_int pa_nil)))) (pa_cons (pe_tup (pa_cons (pv 1) (pa_cons pe_int (pa_cons pe_int pa_nil)))) pa_nil)) (by rfl))
      (pss_cons (ps_while PassesOwn.never (pt_cmpR op_ne (pe_ix ix_tup (pv 3) pe_int (fun _ _ => rfl)) pe_int (nomark _)) (pss_cons (ps_set (i := 4) sc_bezout.nd rfl (by first | exact Or.inl rfl | exact Or.inr rfl) (pe_op op_fdiv (pe_ix ix_tup (pv 2) pe_int (fun _ _ => rfl)) (pe_ix ix_tup (pv 3) pe_int (fun _ _ => rfl))))
      (pss_cons (ps_set (i := 5) sc_bezout.nd rfl (by first | exact Or.inl rfl | exact Or.inr rfl) (pe_callTy (T := "tuple") call_tuple_of (by rfl) G.f_tuple (by decide +kernel) (pa_cons (pe_lc (own := [("first", 6), ("second", 7)]) (g := (gTup _ 2 (gCons (gName 6) (gCons (gName 7) gNil)))) (tt := tYes) rfl sc_bezout.nd (RZ.pi_zipA (by rfl) G.f_zip (pa_cons (pv 2) (pa_cons (pv 3) pa_nil))) (blkOk_by (N := N_bezout) (sc := d_bezout.scope) (by decide +kernel)) (fun _ _ _ _ _ => (pg_tup rfl (pgs_cons (pg_name (i := 6) sc_bezout.nd rfl (by first | exact Or.inl rfl | exact Or.inr rfl)) (pgs_cons (pg_name (i := 7) sc_bezout.nd rfl (by first | exact Or.inl rfl | exact Or.inr rfl)) pgs_nil)))) (fun _ _ _ _ _ => pts_nil) (fun _ _ _ _ _ => (pe_op op_sub (pv 6) (pe_op op_mul (pv 4) (pv 7))))) pa_nil)))
      (pss_one (ps_par (i := 2) (j := 3) (by rfl) sc_bezout.nd rfl rfl (by decide) rfl rfl (pa_cons (pv 3) (pa_cons (pv 5) pa_nil)) (by rfl))))))
      (pss_one (ps_ret (pv 2))))), ?_⟩
    refine sd_par hM (ea_cons (ed_tup (by simp) (ea_cons (ed_var rfl h1) (ea_cons ed_int (ea_one ed_int)))) (ea_one (ed_tup (by simp) (ea_cons (ed_var rfl h2) (ea_cons ed_int (ea_one ed_int)))))) fun vl vr H1 e1 hl hr => ?_
    refine s_while (fun m σ' H' => Ex H H' ∧ ∃ vl vr x y l0 l1 l2 r0 r1 r2, σ' = [some v1, some v2, some vl, some vr, x, y, none, none] ∧ Dp K (hide M H') vl (dV [l0, l1, l2]) ∧ Dp K (hide M H') vr (dV [r0, r1, r2]) ∧ 0 ≤ l0 ∧ l0 < 2 ^ 29 ∧ 0 ≤ r0 ∧ r0 < 2 ^ 29 ∧ l0 = a * l1 + b * l2 ∧ r0 = a * r1 + b * r2 ∧ Int.gcd l0 r0 = Int.gcd a b ∧ m = r0.toNat) b.toNat ⟨e1, vl, vr, none, none, a, 1, 0, b, 0, 1, rfl, hl, hr, ha0, ha1, hb0, hb1, by omega, by omega, rfl, rfl⟩ ?_
    rintro m σ' H' ⟨e, vl, vr, x, y, l0, l1, l2, r0, r1, r2, rfl, hl, hr, hl0, hl1, hr0, hr1, el, er, eg, rfl⟩
    refine ⟨M, _, hM.ex e, et_test (ed_neI (ed_at (u := [r0, r1, r2]) (by simp) (ed_var rfl hr) ed_int) ed_int), fun hb H2 e2 => ?_, fun hb H2 e2 => ?_⟩
    · simp at hb
      have hb : r0 ≠ 0 := hb
      have hp : 0 < r0 := by omega
      have hl2 := hl.mono (hide_ex (M := M) e2)
      have hr2 := hr.mono (hide_ex (M := M) e2)
      have e02 := e.trans e2
      refine sd_set (hM.ex e02) (ed_fdiv ⟨hp, by show r0 < 2 ^ 30; omega⟩ (ed_at (k := 0) (u := [l0, l1, l2]) (by simp) (ed_var rfl hl2) ed_int) (ed_at (k := 0) (u := [r0, r1, r2]) (by simp) (ed_var rfl hr2) ed_int)) fun vq H3 e3 hq3 => ?_
      cases dp_int hq3
      have hl3 := hl2.mono (hide_ex (M := M) e3)
      have hr3 := hr2.mono (hide_ex (M := M) e3)
      have e03 := e02.trans e3
      have hqd : 0 ≤ l0 / r0 ∧ l0 / r0 ≤ l0 := ⟨Int.ediv_nonneg hl0 hr0, Int.ediv_le_self _ hl0⟩
      refine sd_set (hM.ex e03) (ed_vec (ed_lcZ (ed_var rfl hl3) (ed_var rfl hr3) (by simp) (fun a b => a - l0 / r0 * b) (fun _ _ => rfl) fun M' H' x y ex hM' hx hy => ?_)) fun vs H4 e4 hs4 => ?_
      · exact ed_sub (ed_varI rfl) (ed_mul (cmulL (by omega)) (ed_varI rfl) (ed_varI rfl))
      · have hr4 := hr3.mono (hide_ex (M := M) e4)
        refine sd_par (hM.ex (e03.trans e4)) (ea_cons (ed_var rfl hr4) (ea_one (ed_var rfl hs4))) fun x1 x2 H5 e5 k1 k2 => ?_
        have hd : l0 / r0 * r0 + l0 % r0 = l0 := Int.ediv_mul_add_emod l0 r0
        have hmod := Int.emod_nonneg l0 hb
        have hmod2 := Int.emod_lt_of_pos l0 hp
        have e0 : l0 - l0 / r0 * r0 = l0 % r0 := by omega
        refine ⟨(l0 % r0).toNat, by omega, (e03.trans e4).trans e5, x1, x2, _, _, r0, r1, r2, l0 - l0 / r0 * r0, l1 - l0 / r0 * r1, l2 - l0 / r0 * r2, rfl, k1, k2, hr0, hr1, by omega, by omega, er, ?_, ?_, by rw [e0]⟩
        · rw [Int.mul_sub, Int.mul_sub, el, er]
          grind
        · rw [Int.gcd_sub_mul_right_right, Int.gcd_comm, eg]
    · simp at hb
      have hb : r0 = 0 := hb
      subst hb
      refine sd_ret (hM.ex (e.trans e2)) (ed_var rfl (hl.mono (hide_ex e2))) fun v3 H3 e3 h3 => hq v3 H3 ((e.trans e2).trans e3) ⟨l1, l2, ?_, ?_⟩
      · rw [← eg, Int.gcd_zero_right, ← el]
        omega
      · rw [← eg, Int.gcd_zero_right]
        have : ((l0.natAbs : Nat) : Int) = l0 := by omega
        rw [this]
        exact h3)
end
end WL
end
section
set_option Elab.async false
set_option linter.all false
set_option maxRecDepth 100000
set_option maxHeartbeats 4000000
/-! D2: the small tests, content, normalizer, invert, reduced_by. -/
namespace WL
open PySem PySem.Spec PyProof.Rows L2 Evl HeadW
section
variable {w : World} {K : PySem.W.Frag} {mg : Str → Option Value} {base : Heap}
abbrev N_is_integer : List Str := ["thing"]
theorem sc_is_integer : FnScope N_is_integer ["thing"] d_is_integer.scope := ⟨rfl, rfl, rfl, by decide +kernel, rfl, by decide +kernel, by decide +kernel⟩
theorem bi_is_integer (kV doc pm : Value) (an : Option Addr) (cdv ct : Value) (us : List Value) (hl : us.length = 1) : bindArgs (PySem.W.fnOf d_is_integer.name d_is_integer.qual d_is_integer.params d_is_integer.body d_is_integer.scope .none kV doc pm an cdv ct) ⟨us, []⟩ = pure ((["thing"] : List Str).zip us) := by
  match us, hl with
  | [_], _ => rfl

def R_is_integer (K : PySem.W.Frag) (Ts : List Ty) (T : Ty) : Prop := ∃ i : Int, Ts = [tI K i] ∧ T = tB K true
theorem cal_is_integer (G : Glb w K mg base) : C8.Cal PP w K mg base 1 "is_integer" (SpT (R_is_integer K)) [] :=
  cal_mk G 1 (d := d_is_integer) rfl rfl G.g_is_integer rfl sc_is_integer (spT_len fun Ts T ⟨_, h, _⟩ => by rw [h]; rfl) bi_is_integer (fun f cdv A outer s H vs Q E hr hsp => by
    obtain ⟨M, Ts, T, hM, hv, ⟨i, rfl, rfl⟩, hq⟩ := hsp
    obtain ⟨v1, rfl, h1⟩ := allT1 hv
    refine ⟨_, (pss_one (ps_ret (pe_and (pe_callB (id := "isinstance") call_isi (by rfl) G.f_isinstance (by decide +kernel) (pa_cons (pv 0) (pa_cons (pe_bltn (v := .ty "int") (by rfl) G.f_int (by decide +kernel) rfl) pa_nil))) (pe_one (pe_not (pe_callB (id := "isinstance") call_isi (by rfl) G.f_isinstance (by decide +kernel) (pa_cons (pv 0) (pa_cons (pe_bltn (v := .ty "bool") (by rfl) G.f_bool (by decide +kernel) rfl) pa_nil)))))))), ?_⟩
    exact sd_ret hM (ed_and (ed_isi (b := true) (n := "int") (ed_var rfl h1) rfl (by decide +kernel)) fun _ => ed_not (ed_isi (b := false) (n := "int") (ed_var rfl h1) rfl (by decide +kernel))) fun v H1 e h => hq v H1 e h)
abbrev N_is_between : List Str := ["thing", "least", "greatest"]
theorem sc_is_between : FnScope N_is_between ["thing", "least", "greatest"] d_is_between.scope := ⟨rfl, rfl, rfl, by decide +kernel, rfl, by decide +kernel, by decide +kernel⟩
theorem bi_is_between (kV doc pm : Value) (an : Option Addr) (cdv ct : Value) (us : List Value) (hl : us.length = 3) : bindArgs (PySem.W.fnOf d_is_between.name d_is_between.qual d_is_between.params d_is_between.body d_is_between.scope .none kV doc pm an cdv ct) ⟨us, []⟩ = pure ((["thing", "least", "greatest"] : List Str).zip us) := by
  match us, hl with
  | [_, _, _], _ => rfl

def R_is_between (K : PySem.W.Frag) (Ts : List Ty) (T : Ty) : Prop := ∃ i a b : Int, Ts = [tI K i, tI K a, tI K b] ∧ T = tB K (decide (a ≤ i) && decide (i ≤ b))
theorem cal_is_between (G : Glb w K mg base) : C8.Cal PP w K mg base 2 "is_between" (SpT (R_is_between K)) [] :=
  cal_mk G 2 (d := d_is_between) rfl rfl G.g_is_between rfl sc_is_between (spT_len fun Ts T ⟨_, _, _, h, _⟩ => by rw [h]; rfl) bi_is_between (fun f cdv A outer s H vs Q E hr hsp => by
    obtain ⟨M, Ts, T, hM, hv, ⟨i, a, b, rfl, rfl⟩, hq⟩ := hsp
    obtain ⟨v1, v2, v3, rfl, h1, h2, h3⟩ := allT3 hv
    refine ⟨_, (pss_one (ps_ret (pe_and (C8.pe_c (cal_is_integer G) hr (by decide) (by rfl) (pa_cons (pv 0) pa_nil)) (pe_one (pe_chain op_le op_le (pv 1) (pv 0) (pv 2)))))), ?_⟩
    exact sd_ret hM (ed_and (b := true) (ed_call (ega_d (ed_var rfl h1) ega_nil) ⟨i, rfl, rfl⟩) fun _ => ed_leLe (ed_var rfl h2) (ed_var rfl h1) (ed_var rfl h3)) fun v H1 e h => hq v H1 e h)
abbrev N_is_modulus : List Str := ["thing"]
theorem sc_is_modulus : FnScope N_is_modulus ["thing"] d_is_modulus.scope := ⟨rfl, rfl, rfl, by decide +kernel, rfl, by decide +kernel, by decide +kernel⟩
theorem bi_is_modulus (kV doc pm : Value) (an : Option Addr) (cdv ct : Value) (us : List Value) (hl : us.length = 1) : bindArgs (PySem.W.fnOf d_is_modulus.name d_is_modulus.qual d_is_modulus.params d_is_modulus.body d_is_modulus.scope .none kV doc pm an cdv ct) ⟨us, []⟩ = pure ((["thing"] : List Str).zip us) := by
  match us, hl with
  | [_], _ => rfl

def R_is_modulus (K : PySem.W.Frag) (Ts : List Ty) (T : Ty) : Prop := ∃ i : Int, Ts = [tI K i] ∧ T = tB K (decide (2 ≤ i) && decide (i ≤ 60))
theorem cal_is_modulus (G : Glb w K mg base) : C8.Cal PP w K mg base 3 "is_modulus" (SpT (R_is_modulus K)) [] :=
  cal_mk G 4 (d := d_is_modulus) rfl rfl G.g_is_modulus rfl sc_is_modulus (spT_len fun Ts T ⟨_, h, _⟩ => by rw [h]; rfl) bi_is_modulus (fun f cdv A outer s H vs Q E hr hsp => by
    obtain ⟨M, Ts, T, hM, hv, ⟨i, rfl, rfl⟩, hq⟩ := hsp
    obtain ⟨v1, rfl, h1⟩ := allT1 hv
    refine ⟨_, (pss_one (ps_ret (C8.pe_c (cal_is_between G) hr (by decide) (by rfl) (pa_cons (pv 0) (pa_cons (C8.pe_gc (by rfl) G.c_LEAST_MODULUS) (pa_cons (C8.pe_gc (by rfl) G.c_GREATEST_MODULUS) pa_nil)))))), ?_⟩
    exact sg_ret hM (eg_call (ega_d (ed_var rfl h1) (ega_d ed_int (ega_d ed_int ega_nil))) ⟨i, 2, 60, rfl, rfl⟩) fun v H1 e h => hq v H1 e h)
abbrev N_is_width : List Str := ["thing"]
theorem sc_is_width : FnScope N_is_width ["thing"] d_is_width.scope := ⟨rfl, rfl, rfl, by decide +kernel, rfl, by decide +kernel, by decide +kernel⟩
theorem bi_is_width (kV doc pm : Value) (an : Option Addr) (cdv ct : Value) (us : List Value) (hl : us.length = 1) : bindArgs (PySem.W.fnOf d_is_width.name d_is_width.qual d_is_width.params d_is_width.body d_is_width.scope .none kV doc pm an cdv ct) ⟨us, []⟩ = pure ((["thing"] : List Str).zip us) := by
  match us, hl with
  | [_], _ => rfl

def R_is_width (K : PySem.W.Frag) (Ts : List Ty) (T : Ty) : Prop := ∃ i : Int, Ts = [tI K i] ∧ T = tB K (decide (1 ≤ i) && decide (i ≤ 12))
theorem cal_is_width (G : Glb w K mg base) : C8.Cal PP w K mg base 3 "is_width" (SpT (R_is_width K)) [] :=
  cal_mk G 5 (d := d_is_width) rfl rfl G.g_is_width rfl sc_is_width (spT_len fun Ts T ⟨_, h, _⟩ => by rw [h]; rfl) bi_is_width (fun f cdv A outer s H vs Q E hr hsp => by
    obtain ⟨M, Ts, T, hM, hv, ⟨i, rfl, rfl⟩, hq⟩ := hsp
    obtain ⟨v1, rfl, h1⟩ := allT1 hv
    refine ⟨_, (pss_one (ps_ret (C8.pe_c (cal_is_between G) hr (by decide) (by rfl) (pa_cons (pv 0) (pa_cons pe_int (pa_cons (C8.pe_gc (by rfl) G.c_GREATEST_WIDTH) pa_nil)))))), ?_⟩
    exact sg_ret hM (eg_call (ega_d (ed_var rfl h1) (ega_d ed_int (ega_d ed_int ega_nil))) ⟨i, 1, 12, rfl, rfl⟩) fun v H1 e h => hq v H1 e h)
abbrev N_is_vector : List Str := ["thing", "modulus", "width", "entry"]
theorem sc_is_vector : FnScope N_is_vector ["thing", "modulus", "width"] d_is_vector.scope := ⟨rfl, rfl, rfl, by decide +kernel, rfl, by decide +kernel, by decide +kernel⟩
theorem bi_is_vector (kV doc pm : Value) (an : Option Addr) (cdv ct : Value) (us : List Value) (hl : us.length = 3) : bindArgs (PySem.W.fnOf d_is_vector.name d_is_vector.qual d_is_vector.params d_is_vector.body d_is_vector.scope .none kV doc pm an cdv ct) ⟨us, []⟩ = pure ((["thing", "modulus", "width"] : List Str).zip us) := by
  match us, hl with
  | [_, _, _], _ => rfl

def R_is_vector (K : PySem.W.Frag) (Ts : List Ty) (T : Ty) : Prop := ∃ (v : List Int) (m : Int) (n : Nat), Ts = [tV K v, tI K m, tI K n] ∧ v.length = n ∧ n ≤ 1000 ∧ T = tB K (v.all fun a => decide (0 ≤ a) && decide (a ≤ m - 1))
theorem cal_is_vector (G : Glb w K mg base) : C8.Cal PP w K mg base 3 "is_vector" (SpT (R_is_vector K)) [] :=
  cal_mk G 6 (d := d_is_vector) rfl rfl G.g_is_vector rfl sc_is_vector (spT_len fun Ts T ⟨_, _, _, h, _⟩ => by rw [h]; rfl) bi_is_vector (fun f cdv A outer s H vs Q E hr hsp => by
    obtain ⟨M, Ts, T, hM, hv, ⟨v, m, n, rfl, hl, hn, rfl⟩, hq⟩ := hsp
    obtain ⟨v1, v2, v3, rfl, h1, h2, h3⟩ := allT3 hv
    refine ⟨_, (pss_cons (ps_if (PW.pt (pw_or (pt_not (pt_val (pe_callB (id := "isinstance") call_isi (by rfl) G.f_isinstance (by decide +kernel) (pa_cons (pv 0) (pa_cons (pe_bltn (v := .ty "tuple") (by rfl) G.f_tuple (by decide +kernel) rfl) pa_nil))))) (pw_or1 (pt_cmpR op_ne (pe_callB (id := "len") call_len (by rfl) G.f_len (by decide +kernel) (pa_cons (pv 0) pa_nil)) (pv 2) (nomark _))))) (pss_one (ps_ret pe_bl)) pss_nil)
      (pss_one (ps_ret (pe_callB (id := "all") (cr_all rfl) (by rfl) G.f_all (by decide +kernel) (pa_cons (pe_lc (own := [("entry", 3)]) (g := (gName 3)) (tt := tYes) rfl sc_is_vector.nd (pi_tup (pv 0)) (blkOk_by (N := N_is_vector) (sc := d_is_vector.scope) (by decide +kernel)) (fun _ _ _ _ _ => (pg_name (i := 3) sc_is_vector.nd rfl (by first | exact Or.inl rfl | exact Or.inr rfl))) (fun _ _ _ _ _ => pts_nil) (fun _ _ _ _ _ => (C8.pe_c (cal_is_between G) hr (by decide) (by rfl) (pa_cons (pv 3) (pa_cons pe_int (pa_cons (pe_op op_sub (pv 1) pe_int) pa_nil)))))) pa_nil))))), ?_⟩
    refine sd_if (b := false) hM ((et_or (et_not (et_B (ed_isi (b := true) (n := "tuple") (ed_var rfl h1) rfl (by decide +kernel)))) fun _ => et_test (ed_neI (ed_lenU (ed_var rfl h1)) (ed_var rfl h3))).to ?_) (fun hb => by cases hb) fun _ H1 e1 => ?_
    · simp [hl]
    · dsimp only [tNext]
      refine sd_ret (hM.ex e1) (ed_allB (l := v) (f := fun a => decide (0 ≤ a) && decide (a ≤ m - 1)) (ed_lcT1 (src := v) (g := fun a => .int a) (ed_var rfl (h1.mono (hide_ex e1))) (by omega) _ (fun _ => rfl) fun M' H' x a ex hM' ha hx => ?_)) fun v H2 e2 h => hq v H2 (e1.trans e2) h
      exact ed_call (ega_d (ed_var rfl hx) (ega_d ed_int (ega_d (ed_sub (ed_var rfl ((h2.mono (hide_ex e1)).mono ex)) ed_int) ega_nil))) ⟨a, 0, m - 1, rfl, rfl⟩)
end
end WL
end
section
set_option Elab.async false
set_option linter.all false
set_option maxRecDepth 100000
set_option maxHeartbeats 4000000
/-! D3: content, normalizer, invert, reduced_by. -/
namespace WL
open PySem PySem.Spec PyProof.Rows L2 Evl HeadW
section
variable {K : PySem.W.Frag} {M : List Addr} {σ : L2.St} {H H' : Hp} {te : TE} {T : Ty} {D : Ends} {g : TG}
theorem sg_bind (hM : MOk M H) (h : EG M te σ H T) (k : ∀ v H1, Ex H H1 → T.p v (hide M H1) → g v σ H1 D.nx) : tAsg te g D σ H := h hM H (Ex.refl H) _ k
theorem g_tup2 {v : V} {a b : PyData} {i j : Nat} {Q : L2.St → Hp → Prop} (h : Dp K (hide M H) v (.tuple [a, b])) (k : ∀ x y, Dp K (hide M H) x a → Dp K (hide M H) y b → Q ((σ.set i (some x)).set j (some y)) H) : gTup K 2 (gCons (gName i) (gCons (gName j) gNil)) v σ H Q := by
  obtain ⟨p, xs, rfl, hs, hx⟩ := dp_tup h
  cases hx with
  | cons h1 hx =>
    cases hx with
    | cons h2 hx =>
      cases hx
      exact ⟨p, _, rfl, ex_t (hide_sub _ _) hs, rfl, _, _, rfl, _, _, rfl, rfl, k _ _ h1 h2⟩
theorem g_tup3 {v : V} {a b c : PyData} {i j l : Nat} {Q : L2.St → Hp → Prop} (h : Dp K (hide M H) v (.tuple [a, b, c])) (k : ∀ x y z, Dp K (hide M H) x a → Dp K (hide M H) y b → Dp K (hide M H) z c → Q (((σ.set i (some x)).set j (some y)).set l (some z)) H) :
    gTup K 3 (gCons (gName i) (gCons (gName j) (gCons (gName l) gNil))) v σ H Q := by
  obtain ⟨p, xs, rfl, hs, hx⟩ := dp_tup h
  cases hx with
  | cons h1 hx =>
    cases hx with
    | cons h2 hx =>
      cases hx with
      | cons h3 hx =>
        cases hx
        exact ⟨p, _, rfl, ex_t (hide_sub _ _) hs, rfl, _, _, rfl, _, _, rfl, _, _, rfl, rfl, k _ _ _ h1 h2 h3⟩
theorem ed_bez0 {a b : Int} (h : EG M te σ H (tBez K a b)) : ED K M (tOp (rIxT K) te (tC (.int 0))) σ H (.int (Int.gcd a b : Int)) := fun hM H1 e Q q => h hM H1 e _ fun v H2 e2 ⟨s, t, _, hd⟩ => by
  obtain ⟨p, xs, rfl, hs, hx⟩ := dp_tup hd
  obtain ⟨x, hx1, hx2⟩ := dpAll_get hx (i := 0) rfl
  exact ⟨p, xs, 0, x, rfl, rfl, ex_t (hide_sub _ _) hs, atI_nat' hx1, q _ H2 e2 hx2⟩
/-- rows by their leads -/
abbrev dRow (p : Nat × List Int) : PyData := .tuple [.int (p.1 : Int), dV p.2]
abbrev dRows (L : WM.Pv) : PyData := .list (L.map dRow)
end
theorem vec_sm {m : Int} {n : Nat} {v : List Int} (h : WM.Vec m n v) (hm : 0 < m) (h1 : m ≤ 2 ^ 29) (h2 : n ≤ 1000) : Sm v := ⟨by rw [h.len]; exact h2, fun a ha => by
  have := h.rng a ha
  omega⟩
def unitB (m v : Nat) : Bool := (List.range (m + 1)).any fun u => decide (1 ≤ u) && (decide (u * v % m = Nat.gcd v m) && decide (Nat.gcd u m = 1))
theorem unit_all : ((List.range 61).all fun m => (List.range m).all fun v => decide (v = 0) || decide (m < 2) || unitB m v) = true := by decide +kernel
theorem unit_ex {m v : Nat} (h1 : 2 ≤ m) (h2 : m ≤ 60) (h3 : 0 < v) (h4 : v < m) : ∃ u : Nat, 1 ≤ u ∧ u ≤ m ∧ u * v % m = Nat.gcd v m ∧ Nat.gcd u m = 1 := by
  have a := List.all_eq_true.mp unit_all m (by simp; omega)
  have b := List.all_eq_true.mp a v (by simpa using h4)
  have c : unitB m v = true := by
    simp only [Bool.or_eq_true, decide_eq_true_eq] at b
    rcases b with (b | b) | b
    · omega
    · omega
    · exact b
  obtain ⟨u, hu, hb⟩ := List.any_eq_true.mp c
  simp only [Bool.and_eq_true, decide_eq_true_eq] at hb
  exact ⟨u, hb.1, by simp at hu; omega, hb.2.1, hb.2.2⟩
section
variable {w : World} {K : PySem.W.Frag} {mg : Str → Option Value} {base : Heap}
theorem gcdL_le {m : Int} (hm : 0 < m) (vs : List Int) : 0 < WM.gcdL m vs ∧ WM.gcdL m vs ≤ m := by
  obtain ⟨h1, h2, _⟩ := WM.gcdL_spec vs m hm
  exact ⟨h1, Int.le_of_dvd hm h2⟩
theorem gcdL_snoc (m : Int) (vs : List Int) (v : Int) : WM.gcdL m (vs ++ [v]) = (Int.gcd v (WM.gcdL m vs) : Int) := by
  unfold WM.gcdL
  rw [List.foldl_append]
  rfl
abbrev N_content : List Str := ["values", "modulus", "found", "value"]
theorem sc_content : FnScope N_content ["values", "modulus"] d_content.scope := ⟨rfl, rfl, rfl, by decide +kernel, rfl, by decide +kernel, by decide +kernel⟩
theorem bi_content (kV doc pm : Value) (an : Option Addr) (cdv ct : Value) (us : List Value) (hl : us.length = 2) : bindArgs (PySem.W.fnOf d_content.name d_content.qual d_content.params d_content.body d_content.scope .none kV doc pm an cdv ct) ⟨us, []⟩ = pure ((["values", "modulus"] : List Str).zip us) := by
  match us, hl with
  | [_, _], _ => rfl

def R_content (K : PySem.W.Frag) (Ts : List Ty) (T : Ty) : Prop := ∃ (vs : List Int) (m : Int), Ts = [dat K (.list (vs.map .int)), tI K m] ∧ 0 < m ∧ m < 2 ^ 29 ∧ T = tI K (WM.gcdL m (vs.map fun a => a % m))
theorem cal_content (G : Glb w K mg base) : C8.Cal PP w K mg base 2 "content" (SpT (R_content K)) [] :=
  cal_mk G 8 (d := d_content) rfl rfl G.g_content rfl sc_content (spT_len fun Ts T ⟨_, _, h, _⟩ => by rw [h]; rfl) bi_content (fun f cdv A outer s H vs Q E hr hsp => by
    obtain ⟨M, Ts, T, hM, hv, ⟨vs, m, rfl, hm, hm2, rfl⟩, hq⟩ := hsp
    obtain ⟨v1, v2, rfl, h1, h2⟩ := allT2 hv
    refine ⟨_, (pss_cons (ps_set (i := 2) sc_content.nd rfl (by first | exact Or.inl rfl | exact Or.inr rfl) (pv 1))
      (pss_cons (ps_for PassesOwn.never rfl (pi_list (pv 0)) (pg_name (i := 3) sc_content.nd rfl (by first | exact Or.inl rfl | exact Or.inr rfl)) (pss_one (ps_set (i := 2) sc_content.nd rfl (by first | exact Or.inl rfl | exact Or.inr rfl) (pe_ix ix_tup (C8.pe_c (cal_bezout G) hr (by decide) (by rfl) (pa_cons (pe_op op_mod (pv 3) (pv 1)) (pa_cons (pv 2) pa_nil))) pe_int (fun _ _ => rfl)))))
      (pss_one (ps_ret (pv 2))))), ?_⟩
    refine sd_set hM (ed_var rfl h2) fun v3 H1 e1 h3 => ?_
    cases dp_int h3
    refine s_forP (hM.ex e1) (ei_ld (K := K) (src := vs) (f := fun a => .int a) (ed_var rfl (h1.mono (hide_ex e1)))) (fun i σ' H' => ∃ x, σ' = [some v1, some v2, some (.int (WM.gcdL m ((vs.take i).map fun a => a % m))), x]) (fun H2 e => ⟨none, rfl⟩) ?_ ?_
    · rintro H2 i a x σ' H' H3 e2 e3 hi ⟨x0, rfl⟩ e4 hx
      have e := ((e1.trans e2).trans e3).trans e4
      have hg := gcdL_le hm ((vs.take i).map fun a => a % m)
      have hr := Int.emod_nonneg a (by omega : m ≠ 0)
      have hr2 := Int.emod_lt_of_pos a hm
      refine sd_set (hM.ex e) (ed_bez0 (eg_call (ega_d (ed_mod hm (ed_var rfl hx) (ed_var rfl (h2.mono (hide_ex e)))) (ega_d (ed_varI rfl) ega_nil)) ⟨a % m, _, rfl, hr, by omega, by omega, by omega, rfl⟩)) fun v H5 e5 h5 => ?_
      cases dp_int h5
      refine ⟨(e3.trans e4).trans e5, x, ?_⟩
      have : vs.take (i + 1) = vs.take i ++ [a] := by rw [List.take_add_one, hi]; rfl
      rw [this, List.map_append, List.map_singleton, gcdL_snoc]
      rfl
    · rintro σ' H' e ⟨x0, rfl⟩
      dsimp only
      refine sd_ret (K := K) (hM.ex (e1.trans e)) (ed_varI rfl) fun v H2 e2 h => hq v H2 ((e1.trans e).trans e2) ?_
      rw [List.take_length] at h
      exact h)
abbrev N_normalizer : List Str := ["value", "modulus", "wanted", "unit"]
theorem sc_normalizer : FnScope N_normalizer ["value", "modulus"] d_normalizer.scope := ⟨rfl, rfl, rfl, by decide +kernel, rfl, by decide +kernel, by decide +kernel⟩
theorem bi_normalizer (kV doc pm : Value) (an : Option Addr) (cdv ct : Value) (us : List Value) (hl : us.length = 2) : bindArgs (PySem.W.fnOf d_normalizer.name d_normalizer.qual d_normalizer.params d_normalizer.body d_normalizer.scope .none kV doc pm an cdv ct) ⟨us, []⟩ = pure ((["value", "modulus"] : List Str).zip us) := by
  match us, hl with
  | [_, _], _ => rfl

def tNorm (K : PySem.W.Frag) (a m : Int) : Ty := ⟨fun v H => ∃ u : Int, Int.gcd u m = 1 ∧ u * a % m = (Int.gcd a m : Int) ∧ 1 ≤ u ∧ u ≤ 60 ∧ Dp K H v (.int u), fun e ⟨u, h1, h2, h3, h4, h5⟩ => ⟨u, h1, h2, h3, h4, h5.mono e⟩⟩
def R_normalizer (K : PySem.W.Frag) (Ts : List Ty) (T : Ty) : Prop := ∃ a m : Int, Ts = [tI K a, tI K m] ∧ 0 < a ∧ a < m ∧ 2 ≤ m ∧ m ≤ 60 ∧ T = tNorm K a m
theorem gcdL_one (m v : Int) : WM.gcdL m [v] = (Int.gcd v m : Int) := rfl
theorem cal_normalizer (G : Glb w K mg base) : C8.Cal PP w K mg base 3 "normalizer" (SpT (R_normalizer K)) [] :=
  cal_mk G 9 (d := d_normalizer) rfl rfl G.g_normalizer rfl sc_normalizer (spT_len fun Ts T ⟨_, _, h, _⟩ => by rw [h]; rfl) bi_normalizer (fun f cdv A outer s H vs Q E hr hsp => by
    obtain ⟨M, Ts, T, hM, hv, ⟨a, m, rfl, ha, ham, hm, hm2, rfl⟩, hq⟩ := hsp
    obtain ⟨v1, v2, rfl, h1, h2⟩ := allT2 hv
    obtain ⟨m, rfl⟩ := Int.eq_ofNat_of_zero_le (by omega : 0 ≤ m)
    obtain ⟨a, rfl⟩ := Int.eq_ofNat_of_zero_le (by omega : 0 ≤ a)
    obtain ⟨u0, hu1, hu2, hu3, hu4⟩ := unit_ex (m := m) (v := a) (by omega) (by omega) (by omega) (by omega)
    have hg1 : Nat.gcd a m ≤ a := Nat.gcd_le_left m (by omega)
    refine ⟨_, (pss_cons (ps_set (i := 2) sc_normalizer.nd rfl (by first | exact Or.inl rfl | exact Or.inr rfl) (pe_op op_mod (C8.pe_c (cal_content G) hr (by decide) (by rfl) (pa_cons (pe_lst (pa_cons (pv 0) pa_nil)) (pa_cons (pv 1) pa_nil))) (pv 1)))
      (pss_cons (ps_set (i := 3) sc_normalizer.nd rfl (by first | exact Or.inl rfl | exact Or.inr rfl) pe_int)
      (pss_cons (ps_while PassesOwn.never (PW.pt (pw_or (pt_cmpR op_ne (pe_op op_mod (pe_op op_mul (pv 3) (pv 0)) (pv 1)) (pv 2) (nomark _)) (pw_or1 (pt_cmpR op_ne (C8.pe_c (cal_content G) hr (by decide) (by rfl) (pa_cons (pe_lst (pa_cons (pv 3) pa_nil)) (pa_cons (pv 1) pa_nil))) pe_int (nomark _))))) (pss_one (ps_aug (i := 3) sc_normalizer.nd rfl (by first | exact Or.inl rfl | exact Or.inr rfl) pe_int ip_add)))
      (pss_one (ps_ret (pv 3)))))), ?_⟩
    refine sd_set hM (ed_mod (by omega) (ed_call (ega_d (ed_lst (by simp) (ea_one (ed_var rfl h1))) (ega_d (ed_var rfl h2) ega_nil)) ⟨[(a : Int)], m, rfl, by omega, by omega, rfl⟩) (ed_var rfl h2)) fun v3 H1 e1 h3 => ?_
    have hw : WM.gcdL (m : Int) ([(a : Int)].map fun x => x % (m : Int)) % (m : Int) = (Nat.gcd a m : Int) := by
      rw [List.map_singleton, gcdL_one, Int.emod_eq_of_lt (by omega : (0 : Int) ≤ a) (by omega)]
      show ((Nat.gcd a m : Nat) : Int) % (m : Int) = _
      exact Int.emod_eq_of_lt (by omega) (by omega)
    rw [hw] at h3
    dsimp only
    refine sd_set (K := K) (hM.ex e1) ed_int fun v4 H2 e2 h4 => ?_
    cases dp_int h4
    refine s_while (fun k σ' H' => ∃ u : Nat, Ex H1 H' ∧ 1 ≤ u ∧ u ≤ u0 ∧ σ' = [some v1, some v2, some v3, some (.int u)] ∧ k = u0 - u) (u0 - 1) ⟨1, e2, by omega, by omega, rfl, rfl⟩ ?_
    rintro k σ' H' ⟨u, e, hu5, hu6, rfl, rfl⟩
    have e01 := e1.trans e
    have hm' : (0 : Int) < m := by omega
    refine ⟨M, _, hM.ex e01, et_or (et_test (ed_neI (ed_mod hm' (ed_mul (cmulL (by omega)) (ed_varI rfl) (ed_var rfl (h1.mono (hide_ex e01)))) (ed_var rfl (h2.mono (hide_ex e01)))) (ed_var rfl (h3.mono (hide_ex e))))) fun _ =>
      et_test (ed_neI (ed_call (ega_d (ed_lst (by simp) (ea_one (ed_varI rfl))) (ega_d (ed_var rfl (h2.mono (hide_ex e01))) ega_nil)) ⟨[(u : Int)], m, rfl, by omega, by omega, rfl⟩) ed_int), fun hb H3 e3 => ?_, fun hb H3 e3 => ?_⟩
    · have hne : u ≠ u0 := by
        rintro rfl
        have h5 : ((u : Nat) : Int) * (a : Int) % (m : Int) = (Nat.gcd a m : Int) := by exact_mod_cast hu3
        have hul : u < m := by
          rcases Nat.lt_or_ge u m with z | z
          · exact z
          · have : u = m := by omega
            subst this
            rw [Nat.gcd_self] at hu4
            omega
        have h6 : WM.gcdL (m : Int) ([(u : Int)].map fun x => x % (m : Int)) = 1 := by
          rw [List.map_singleton, gcdL_one, Int.emod_eq_of_lt (by omega : (0 : Int) ≤ u) (by omega)]
          show ((Nat.gcd u m : Nat) : Int) = 1
          rw [hu4]; rfl
        simp [h5] at hb
        exact hb h6
      refine sd_aug (K := K) (te := tC (.int 1)) (f := fun a b => a + b) (c := 1) (hM.ex (e01.trans e3)) rfl ed_int fun H4 e4 => ⟨u0 - (u + 1), by omega, u + 1, (e.trans e3).trans e4, by omega, by omega, ?_, rfl⟩
      simp
    · simp at hb
      obtain ⟨hb1, hb2⟩ := hb
      have hb2 : WM.gcdL (m : Int) [(u : Int) % m] = 1 := hb2
      rw [gcdL_one] at hb2
      refine sd_ret (K := K) (hM.ex (e01.trans e3)) (ed_varI rfl) fun v H4 e4 h => hq v H4 ((e01.trans e3).trans e4) ⟨u, ?_, ?_, by omega, by omega, h⟩
      · have hz : Int.gcd ((u : Int) % m) m = 1 := by omega
        rcases Nat.lt_or_ge u m with z | z
        · rw [Int.emod_eq_of_lt (by omega : (0 : Int) ≤ u) (by omega)] at hz
          exact hz
        · have : u = m := by omega
          subst this
          rw [Int.emod_self, Int.gcd_zero_left] at hz
          omega
      · exact hb1)
abbrev N_invert : List Str := ["value", "modulus", "divisor", "factor", "rest"]
theorem sc_invert : FnScope N_invert ["value", "modulus"] d_invert.scope := ⟨rfl, rfl, rfl, by decide +kernel, rfl, by decide +kernel, by decide +kernel⟩
theorem bi_invert (kV doc pm : Value) (an : Option Addr) (cdv ct : Value) (us : List Value) (hl : us.length = 2) : bindArgs (PySem.W.fnOf d_invert.name d_invert.qual d_invert.params d_invert.body d_invert.scope .none kV doc pm an cdv ct) ⟨us, []⟩ = pure ((["value", "modulus"] : List Str).zip us) := by
  match us, hl with
  | [_, _], _ => rfl

def tInv (K : PySem.W.Frag) (a m : Int) : Ty := ⟨fun v H => ∃ r : Int, m ∣ r * a - 1 ∧ 0 ≤ r ∧ r < m ∧ Dp K H v (.int r), fun e ⟨u, h1, h2, h3, h5⟩ => ⟨u, h1, h2, h3, h5.mono e⟩⟩
def R_invert (K : PySem.W.Frag) (Ts : List Ty) (T : Ty) : Prop := ∃ a m : Int, Ts = [tI K a, tI K m] ∧ 0 < m ∧ m < 2 ^ 29 ∧ Int.gcd (a % m) m = 1 ∧ T = tInv K a m
theorem cal_invert (G : Glb w K mg base) : C8.Cal PP w K mg base 2 "invert" (SpT (R_invert K)) [] :=
  cal_mk G 10 (d := d_invert) rfl rfl G.g_invert rfl sc_invert (spT_len fun Ts T ⟨_, _, h, _⟩ => by rw [h]; rfl) bi_invert (fun f cdv A outer s H vs Q E hr hsp => by
    obtain ⟨M, Ts, T, hM, hv, ⟨a, m, rfl, hm, hm2, hg, rfl⟩, hq⟩ := hsp
    obtain ⟨v1, v2, rfl, h1, h2⟩ := allT2 hv
    have hr0 := Int.emod_nonneg a (by omega : m ≠ 0)
    have hr2 := Int.emod_lt_of_pos a hm
    refine ⟨_, (pss_cons (ps_asg (C8.pe_c (cal_bezout G) hr (by decide) (by rfl) (pa_cons (pe_op op_mod (pv 0) (pv 1)) (pa_cons (pv 1) pa_nil))) (pg_tup rfl (pgs_cons (pg_name (i := 2) sc_invert.nd rfl (by first | exact Or.inl rfl | exact Or.inr rfl)) (pgs_cons (pg_name (i := 3) sc_invert.nd rfl (by first | exact Or.inl rfl | exact Or.inr rfl)) (pgs_cons (pg_name (i := 4) sc_invert.nd rfl (by first | exact Or.inl rfl | exact Or.inr rfl)) pgs_nil)))))
      (pss_cons (ps_if (pt_cmpR op_ne (pv 2) pe_int (nomark _)) (pss_one ps_never) pss_nil)
      (pss_one (ps_ret (pe_op op_mod (pv 3) (pv 1)))))), ?_⟩
    refine sg_bind hM (eg_call (ega_d (ed_mod hm (ed_var rfl h1) (ed_var rfl h2)) (ega_d (ed_var rfl h2) ega_nil)) ⟨a % m, m, rfl, hr0, by omega, by omega, by omega, rfl⟩) fun v3 H1 e1 ⟨s, t, hst, h3⟩ => ?_
    refine g_tup3 h3 fun x y z hx hy hz => ?_
    rw [hg] at hx hst
    refine sd_if (b := false) (hM.ex e1) ((et_test (ed_neI (ed_var rfl hx) ed_int)).to (by simp)) (fun hb => by cases hb) fun _ H2 e2 => ?_
    dsimp only [tNext]
    refine sd_ret (hM.ex (e1.trans e2)) (ed_mod hm (ed_var rfl (hy.mono (hide_ex e2))) (ed_var rfl (h2.mono (hide_ex (e1.trans e2))))) fun v H3 e3 h => hq v H3 ((e1.trans e2).trans e3) ⟨s % m, ?_, Int.emod_nonneg _ (by omega), Int.emod_lt_of_pos _ hm, h⟩
    have k1 : m ∣ s % m - s := WM.emod_cg m s
    have k2 : m ∣ a % m - a := WM.emod_cg m a
    obtain ⟨c1, k1⟩ := k1
    obtain ⟨c2, k2⟩ := k2
    refine ⟨c1 * a - c2 * s - t, ?_⟩
    grind)
abbrev N_reduced_by : List Str := ["vector", "rows", "modulus", "lead", "pivot"]
theorem sc_reduced_by : FnScope N_reduced_by ["vector", "rows", "modulus"] d_reduced_by.scope := ⟨rfl, rfl, rfl, by decide +kernel, rfl, by decide +kernel, by decide +kernel⟩
theorem bi_reduced_by (kV doc pm : Value) (an : Option Addr) (cdv ct : Value) (us : List Value) (hl : us.length = 3) : bindArgs (PySem.W.fnOf d_reduced_by.name d_reduced_by.qual d_reduced_by.params d_reduced_by.body d_reduced_by.scope .none kV doc pm an cdv ct) ⟨us, []⟩ = pure ((["vector", "rows", "modulus"] : List Str).zip us) := by
  match us, hl with
  | [_, _, _], _ => rfl

def R_reduced_by (K : PySem.W.Frag) (Ts : List Ty) (T : Ty) : Prop := ∃ (v : List Int) (L : WM.Pv) (m : Int) (n : Nat), Ts = [tV K v, dat K (dRows L), tI K m] ∧ 0 < m ∧ m < 2 ^ 29 ∧ n ≤ 1000 ∧ L.length ≤ 1000 ∧ WM.Vec m n v ∧ (∀ k r, (k, r) ∈ L → WM.Row m n k r) ∧ T = tV K (WM.red m L v)
theorem red_app (m : Int) : ∀ (L1 L2 : WM.Pv) (v : List Int), WM.red m (L1 ++ L2) v = WM.red m L2 (WM.red m L1 v)
  | [], _, _ => rfl
  | (k, r) :: L1, L2, v => red_app m L1 L2 _
theorem cal_reduced_by (G : Glb w K mg base) : C8.Cal PP w K mg base 2 "reduced_by" (SpT (R_reduced_by K)) [] :=
  cal_mk G 17 (d := d_reduced_by) rfl rfl G.g_reduced_by rfl sc_reduced_by (spT_len fun Ts T ⟨_, _, _, _, h, _⟩ => by rw [h]; rfl) bi_reduced_by (fun f cdv A outer s H vs Q E hr hsp => by
    obtain ⟨M, Ts, T, hM, hv, ⟨v, L, m, n, rfl, hm, hm2, hn, hl, hvec, hrow, rfl⟩, hq⟩ := hsp
    obtain ⟨v1, v2, v3, rfl, h1, h2, h3⟩ := allT3 hv
    refine ⟨_, (pss_cons (ps_for PassesOwn.never rfl (pi_list (pv 1)) (pg_tup rfl (pgs_cons (pg_name (i := 3) sc_reduced_by.nd rfl (by first | exact Or.inl rfl | exact Or.inr rfl)) (pgs_cons (pg_name (i := 4) sc_reduced_by.nd rfl (by first | exact Or.inl rfl | exact Or.inr rfl)) pgs_nil))) (pss_one (ps_set (i := 0) sc_reduced_by.nd rfl (by first | exact Or.inl rfl | exact Or.inr rfl) (C8.pe_c (cal_combine G) hr (by decide) (by rfl) (pa_cons (pv 0) (pa_cons pe_int (pa_cons (pv 4) (pa_cons (pe_un un_neg (pe_op op_fdiv (pe_ix ix_tup (pv 0) (pv 3) (fun _ _ => rfl)) (pe_ix ix_tup (pv 4) (pv 3) (fun _ _ => rfl)))) (pa_cons (pv 2) pa_nil)))))))))
      (pss_one (ps_ret (pv 0)))), ?_⟩
    refine s_forP hM (ei_ld (K := K) (src := L) (f := dRow) (ed_var rfl h2)) (fun i σ' H' => ∃ u x y, σ' = [some u, some v2, some v3, x, y] ∧ Dp K (hide M H') u (dV (WM.red m (L.take i) v))) (fun H1 e => ⟨v1, none, none, rfl, h1.mono (hide_ex e)⟩) ?_ ?_
    · rintro H1 i ⟨k, r⟩ x σ' H' H2 e1 e2 hi ⟨u, x0, y0, rfl, hu⟩ e3 hx
      have e := (e1.trans e2).trans e3
      have hmem := List.mem_of_getElem? hi
      have R := hrow k r hmem
      refine g_tup2 hx fun xk xr hk hr => ?_
      cases dp_int hk
      have hu := hu.mono (hide_ex e3)
      have V := WM.red_vec hm (L := L.take i) (fun k r h => hrow k r (List.mem_of_mem_take h)) hvec
      have hRl : k < r.length := by rw [R.len]; exact R.lt
      have hle : WM.at_ r k ≤ m := Int.le_of_dvd hm R.dvd
      refine sd_set (hM.ex e) (ed_call (K := K) (R := R_combine K) (ega_d (ed_var rfl hu) (ega_d ed_int (ega_d (ed_var rfl hr) (ega_d (ed_neg (ed_fdiv ⟨R.pos, by omega⟩ (ed_at (by rw [V.len]; exact R.lt) (ed_var rfl hu) (ed_varI rfl)) (ed_at hRl (ed_var rfl hr) (ed_varI rfl)))) (ega_d (ed_var rfl (h3.mono (hide_ex e))) ega_nil)))))
        ⟨_, 1, _, _, m, rfl, vec_sm V hm (by omega) hn, vec_sm R.toVec hm (by omega) hn, hm, rfl⟩) fun w1 H3 e4 h4 => ⟨(e2.trans e3).trans e4, w1, _, _, rfl, ?_⟩
      have : L.take (i + 1) = L.take i ++ [(k, r)] := by rw [List.take_add_one, hi]; rfl
      rw [this, red_app]
      exact h4
    · rintro σ' H' e ⟨u, x0, y0, rfl, hu⟩
      dsimp only
      refine sd_ret (hM.ex e) (ed_var rfl hu) fun v H2 e2 h => hq v H2 (e.trans e2) ?_
      rw [List.take_length] at h
      exact h)
end
end WL
end
section
set_option Elab.async false
set_option linter.all false
set_option maxRecDepth 100000
set_option maxHeartbeats 4000000
/-! LayE: lists and dicts that change. -/
namespace WL
open PySem PySem.Spec PyProof.Rows L2 Evl HeadW
section
variable {K : PySem.W.Frag} {M : List Addr} {σ : L2.St} {H H' : Hp} {te ta tb : TE} {T : Ty} {D : Ends} {g : TG} {i j : Nat}
theorem tyV_l {p : Addr} {xs : List V} (h : H p = some (.lst xs)) : tyV K "list" (.ref p) H := .inl ⟨rfl, xs, sq_of h⟩
theorem sz_of' {n : Nat} (h : n < 200000) : n < sizeLine := Nat.lt_of_lt_of_le h (by rw [sizeLine_eq]; decide)
theorem s_append {l : Addr} {xs : List V} (hM : MOk M H) (hl : H l = some (.lst xs)) (hs : σ[i]? = some (some (.ref l))) (h : EG M te σ H T) (hz : xs.length < 200000) (k : ∀ v H1, Ex H H1 → T.p v (hide M H1) → D.nx σ (upd H1 l (.lst (xs ++ [v])))) :
    tDrop (tBM K "list" rAppend (tVar i) (tCons te tNil)) D σ H :=
  ⟨.ref l, hs, tyV_l hl, h hM H (Ex.refl H) _ fun v H1 e hv => ⟨l, xs, v, rfl, rfl, e l _ hl, sz_of' hz, k v H1 e hv⟩⟩
theorem s_pop {l : Addr} {xs : List V} {y : V} (hl : H l = some (.lst (xs ++ [y]))) (hs : σ[i]? = some (some (.ref l))) (k : D.nx (σ.set j (some y)) (upd H l (.lst xs))) : tAsg (tBM0 K "list" rPop (tVar i)) (gName j) D σ H :=
  ⟨.ref l, hs, tyV_l hl, l, xs ++ [y], y, rfl, rfl, hl, by simp, by rw [List.dropLast_concat]; exact k⟩
/-- name = [..], the list to change -/
theorem s_newL {ta : TA} {Ts : List Ty} (hM : MOk M H) (h : EGA M ta σ H Ts) (hz : Ts.length ≤ 100000) (k : ∀ p xs H1, Ex H H1 → H1 p = none → AllT (hide M H1) xs Ts → D.nx (σ.set i (some (.ref p))) (upd H1 p (.lst xs))) : tAsg (tLst ta) (gName i) D σ H :=
  h hM H (Ex.refl H) _ fun vs H1 e hv => ⟨by rw [hv.len]; exact sz_of hz, fun p hp => k p vs H1 e hp hv⟩
theorem s_new0 (k : ∀ p, H p = none → D.nx (σ.set i (some (.ref p))) (upd H p (.lst []))) : tAsg (tLst tNil) (gName i) D σ H := ⟨Nat.zero_le _, fun p hp => k p hp⟩
/-- data that may be compared and told, with a depth -/
def LayD (n : Nat) (d : PyData) : Prop := d.canLay0 = true ∧ d.depth ≤ n
theorem layAll {n : Nat} : ∀ ds : List PyData, (∀ d ∈ ds, LayD n d) → PyData.canLayAll0 ds = true ∧ PyData.depthAll ds ≤ n
  | [], _ => ⟨by simp [PyData.canLayAll0], by simp [PyData.depthAll]⟩
  | d :: ds, h => by
    have h1 := h d (by simp)
    have h2 := layAll ds fun e he => h e (by simp [he])
    refine ⟨by simp [PyData.canLayAll0, h1.1, h2.1], ?_⟩
    have a := h1.2
    have b := h2.2
    simp only [PyData.depthAll]
    omega
theorem layL {n : Nat} {ds : List PyData} (h : ∀ d ∈ ds, LayD n d) : LayD (n + 1) (.list ds) := by
  have := layAll ds h
  exact ⟨by simp [PyData.canLay0, this.1], by simp only [PyData.depth]; omega⟩
theorem layU {n : Nat} {ds : List PyData} (h : ∀ d ∈ ds, LayD n d) : LayD (n + 1) (.tuple ds) := by
  have := layAll ds h
  exact ⟨by simp [PyData.canLay0, this.1], by simp only [PyData.depth]; omega⟩
theorem layI (n : Nat) (i : Int) : LayD n (.int i) := ⟨by simp [PyData.canLay0], by simp [PyData.depth]⟩
theorem layV (n : Nat) (v : List Int) : LayD (n + 1) (dV v) := layU fun d hd => by
  obtain ⟨a, _, rfl⟩ := List.mem_map.mp hd
  exact layI n a
theorem LayD.sh {n : Nat} {d : PyData} (h : LayD n d) (hn : n ≤ 64) : SeqAt.shaped d = true := by
  have h1 := h.1
  have h2 := h.2
  simp [SeqAt.shaped, h1]
  omega
theorem shaped_dV (v : List Int) : SeqAt.shaped (dV v) = true := (layV 0 v).sh (by decide)
theorem shaped_dL (vs : List (List Int)) : SeqAt.shaped (dL vs) = true := (layL (n := 1) fun d hd => by
  obtain ⟨v, _, rfl⟩ := List.mem_map.mp hd
  exact layV 0 v).sh (by decide)
theorem eqv_nil (ds : List PyData) : PyData.eqv (.list ds) (.list []) = ds.isEmpty := by
  cases ds <;> simp [PyData.eqv, PyData.eqvAll]
theorem et_ne_nil {p : Addr} {xs : List V} {ds : List PyData} (hs : σ[i]? = some (some (.ref p))) (hp : H p = some (.lst xs)) (hx : DpAll K (hide M H) xs ds) (sh : SeqAt.shaped (.list ds) = true) : ET M (tTest (tOp (rNeD K) (tVar i) (tLst tNil))) σ H (!ds.isEmpty) := fun hM H1 e Q q =>
  ⟨.ref p, hs, Nat.zero_le _, fun z hz => ⟨.list ds, .list [], .lst (sq_of ((e.trans (Ex.new hz)) p _ hp)) ((hx.mono (hide_sub _ _)).mono (e.trans (Ex.new hz))), .lst (sq_of upd_same) .nil, sh, rfl, !ds.isEmpty, by rw [eqv_nil], q _ (Ex.new hz)⟩⟩
theorem hide_cons {p : Addr} (hp : H p = none) : Ex (hide M H) (hide (p :: M) H) := fun a o e => by
  have h2 := hide_sub _ _ a o e
  have h3 : a ∉ M := fun z => by rw [hide_in z] at e; cases e
  rw [hide_out (by simp [h3]; exact ne_of_none h2 hp)]
  exact h2
theorem Fr.back {B M0 M : List Addr} {H0 : Hp} (f : Fr B M0 H0 M H) (h : ∀ a ∈ M0, a ∈ M) : Fr B M0 H0 M0 H := ⟨f.keep, f.vis.trans (hide_less h), fun a ha => f.ok a (h a ha)⟩
/-! dicts from numbers to vectors -/
inductive KvOk (K : PySem.W.Frag) (H : Hp) : List (Key × V) → WM.Pv → Prop where
  | nil : KvOk K H [] []
  | cons {k : Nat} {v : V} {r : List Int} {kvs : List (Key × V)} {L : WM.Pv} : Dp K H v (dV r) → KvOk K H kvs L → KvOk K H ((.inl (k : Int), v) :: kvs) ((k, r) :: L)
theorem KvOk.up (e : Ex H H') : ∀ {kvs : List (Key × V)} {L : WM.Pv}, KvOk K H kvs L → KvOk K H' kvs L
  | _, _, .nil => .nil
  | _, _, .cons a b => .cons (a.mono e) (b.up e)
theorem KvOk.len : ∀ {kvs : List (Key × V)} {L : WM.Pv}, KvOk K H kvs L → kvs.length = L.length
  | _, _, .nil => rfl
  | _, _, .cons _ b => congrArg (· + 1) b.len
theorem KvOk.some : ∀ {kvs : List (Key × V)} {L : WM.Pv} {k : Nat} {r : List Int}, KvOk K H kvs L → L.lookup k = some r → ∃ v, valV kvs (.inl (k : Int)) = .some v ∧ Dp K H v (dV r)
  | _, _, _, _, .nil, h => by simp at h
  | _, _, k, r, .cons (k := j) (v := v) (r := s) (kvs := kvs) a b, h => by
    rw [List.lookup_cons] at h
    by_cases e : k = j
    · subst e
      simp at h
      subst h
      exact ⟨v, valV_pos rfl, a⟩
    · have e1 : (k == j) = false := by simpa using e
      rw [e1] at h
      obtain ⟨u, h1, h2⟩ := b.some h
      exact ⟨u, by rw [valV_neg (by intro z; injection z with z; exact e (by omega))]; exact h1, h2⟩
theorem KvOk.none : ∀ {kvs : List (Key × V)} {L : WM.Pv} {k : Nat}, KvOk K H kvs L → L.lookup k = .none → valV kvs (.inl (k : Int)) = .none
  | _, _, _, .nil, _ => rfl
  | _, _, k, .cons (k := j) (r := s) a b, h => by
    rw [List.lookup_cons] at h
    by_cases e : k = j
    · subst e
      simp at h
    · have e1 : (k == j) = false := by simpa using e
      rw [e1] at h
      rw [valV_neg (by intro z; injection z with z; exact e (by omega))]
      exact b.none h
theorem KvOk.any : ∀ {kvs : List (Key × V)} {L : WM.Pv} (k : Nat), KvOk K H kvs L → (kvs.any fun kv => decide (kv.1 = .inl (k : Int))) = (L.any fun p => p.1 == k)
  | _, _, _, .nil => rfl
  | _, _, k, .cons (k := j) a b => by
    rw [List.any_cons, List.any_cons, b.any k]
    congr 1
    by_cases e : j = k
    · subst e; simp
    · have : ¬ ((Sum.inl (j : Int) : Key) = .inl (k : Int)) := by intro z; injection z with z; exact e (by omega)
      simp [this, e]
theorem KvOk.map {k : Nat} {v : V} {r : List Int} (hv : Dp K H v (dV r)) : ∀ {kvs : List (Key × V)} {L : WM.Pv}, KvOk K H kvs L → KvOk K H (kvs.map (fun kv => if kv.1 = .inl (k : Int) then (kv.1, v) else kv)) (L.map fun p => if p.1 = k then (k, r) else p)
  | _, _, .nil => .nil
  | _, _, .cons (k := j) a b => by
    rw [List.map_cons, List.map_cons]
    by_cases e : j = k
    · subst e
      simp only [if_true]
      exact .cons hv (KvOk.map hv b)
    · have : ¬ ((Sum.inl (j : Int) : Key) = .inl (k : Int)) := by intro z; injection z with z; exact e (by omega)
      simp only [this, e, if_false]
      exact .cons a (KvOk.map hv b)
theorem KvOk.app {k : Nat} {v : V} {r : List Int} (hv : Dp K H v (dV r)) : ∀ {kvs : List (Key × V)} {L : WM.Pv}, KvOk K H kvs L → KvOk K H (kvs ++ [(.inl (k : Int), v)]) (L ++ [(k, r)])
  | _, _, .nil => .cons hv .nil
  | _, _, .cons a b => .cons a (b.app hv)
theorem KvOk.put {k : Nat} {v : V} {r : List Int} {kvs : List (Key × V)} {L : WM.Pv} (h : KvOk K H kvs L) (hv : Dp K H v (dV r)) : KvOk K H (putK kvs (.inl (k : Int)) v) (WM.putP L k r) := by
  unfold putK WM.putP
  rw [h.any k]
  split
  · exact h.map hv
  · exact h.app hv
theorem KvOk.keys : ∀ {kvs : List (Key × V)} {L : WM.Pv}, KvOk K H kvs L → kvs.map (·.1) = (L.map fun p => (p.1 : Int)).map Sum.inl
  | _, _, .nil => rfl
  | _, _, .cons a b => by
    rw [List.map_cons, List.map_cons, List.map_cons, b.keys]
/-- k in d -/
theorem et_notin {d : Addr} {kvs : List (Key × V)} {L : WM.Pv} {k : Nat} (hi : σ[i]? = some (some (.int (k : Int)))) (hj : σ[j]? = some (some (.ref d))) (hd : H d = some (.dK kvs)) (h : KvOk K (hide M H) kvs L) : ET M (L2.tB (tDNotIn (tVar i) (tVar j))) σ H (!(L.lookup k).isSome) := fun hM H1 e Q q =>
  ⟨.int (k : Int), hi, .ref d, hj, d, _, rfl, DGet.k (k := .inl (k : Int)) (e d _ hd), _, rfl, by
    cases e2 : L.lookup k with
    | none => rw [h.none e2]; have := q H1 (Ex.refl _); rw [e2] at this; exact this
    | some r =>
      obtain ⟨v, h1, _⟩ := h.some e2
      rw [h1]; have := q H1 (Ex.refl _); rw [e2] at this; exact this⟩
theorem ed_dget {d : Addr} {kvs : List (Key × V)} {L : WM.Pv} {k : Nat} {r : List Int} (hi : σ[i]? = some (some (.int (k : Int)))) (hj : σ[j]? = some (some (.ref d))) (hd : H d = some (.dK kvs)) (h : KvOk K (hide M H) kvs L) (hr : L.lookup k = some r) :
    ED K M (tDGet (tVar j) (tVar i)) σ H (dV r) := fun hM H1 e Q q => by
  obtain ⟨v, h1, h2⟩ := h.some hr
  refine ⟨.ref d, hj, .int (k : Int), hi, d, v, rfl, ?_, q v H1 (Ex.refl _) (h2.mono (hide_ex e))⟩
  have := DGet.k (k := .inl (k : Int)) (e d _ hd)
  rw [h1] at this
  exact this
theorem s_dput {l i j : Nat} {d : Addr} {kvs : List (Key × V)} {k : Nat} {v : V} (hv : σ[l]? = some (some v)) (hi : σ[i]? = some (some (.int (k : Int)))) (hj : σ[j]? = some (some (.ref d))) (hd : H d = some (.dK kvs)) (hz : kvs.length < 200000)
    (q : D.nx σ (upd H d (.dK (putK kvs (.inl (k : Int)) v)))) : sDPut (tVar j) (tVar i) (tVar l) D σ H := ⟨v, hv, .ref d, hj, .int (k : Int), hi, d, _, rfl, DPut.k (k := .inl (k : Int)) hd (sz_of' hz), q⟩
end
end WL
end
section
set_option Elab.async false
set_option linter.all false
set_option maxRecDepth 100000
set_option maxHeartbeats 4000000
/-! LayF: sorted, as this program asks it. -/
namespace WL
open PySem PySem.Spec PyProof.Rows L2 Evl HeadW
section
variable {X : Cx} {pins : List (Addr × Obj)} {σ : L2.St} {H : Hp} {s : Shared}
/-- sorted(x, ..): the items are collected, then a new list is sorted -/
theorem sorted_by {r : Value} {kw : List (Str × Value)} {A : Around} {E : Value → Shared → Prop} {Q : Value → Shared → Prop} {Gd : List Value → Shared → Prop} (ha1 : argsOk "sorted" ⟨[r], kw⟩)
    (hcol : ∀ R : List Value → Shared → Prop, (∀ vs s1, Gd vs s1 → R vs s1) → wpAny (model X.prog X.w) A.in1 (collect r) R E s) (hz : ∀ vs s1, Gd vs s1 → vs.length ≤ sizeLine)
    (hsort : ∀ vs s1, Gd vs s1 → wpAny (model X.prog X.w) A.in1 (call (.builtin "list.sort") [.ref s1.heap.objs.size] kw) (fun _ s2 => Q (.ref s1.heap.objs.size) s2) E { s1 with heap := s1.heap.push (seqObj "list" vs.toArray 0) }) :
    wpAny (model X.prog X.w) A (call (.builtin "sorted") [r] kw) Q E s := by
  refine PyProof.Rows.call_function_entry_kw PyProof.Rows.kind_sorted PyProof.Rows.plain_sorted PyProof.Rows.entry_sorted ha1 ?_
  unfold Builtin.«sorted»
  refine wpAny_bind (m := checkCount "sorted" 1 1 _) (wpAny_pure (wpAny_bind (hcol _ fun vs s1 hG => ?_)))
  refine wpAny_bind (wpAny_newList ?_ (hz vs s1 hG))
  refine wpAny_bind (wpAny_holding (wpAny_mono (hsort vs s1 hG) (fun _ s2 hq => ?_) fun _ _ e => e))
  exact wpAny_pure ⟨_, rfl, hq⟩
/-- a new list of ints, sorted downwards -/
theorem sortR_ok {A : Around} {E : Value → Shared → Prop} {us : List Value} {ns : List Int} {Q : VK} (I : Inv X pins σ H s) (hv : IntsAre us ns) (hl : ns.length ≤ 1000)
    (q : ∀ (ys : List Int) (p : Addr), ys.Perm ns → ys.Pairwise (· ≥ ·) → H p = none → Q (.ref p) (upd H p (.lst (ys.map V.int)))) :
    wpAny (model X.prog X.w) A (call (.builtin "list.sort") [.ref s.heap.objs.size] [(Str.ofString "reverse", .bool true)]) (fun _ s2 => EP X pins σ Q (.ref s.heap.objs.size) s2) E { s with heap := s.heap.push (seqObj "list" us.toArray 0) } := by
  have hlen : us.length = ns.length := hv.length
  have hz : us.length ≤ sizeLine := by rw [hlen, sizeLine_eq]; omega
  have hoL : (s.heap.push (seqObj "list" us.toArray 0)).get? s.heap.objs.size = some (seqObj "list" us.toArray 0) := Heap.get?_push_size _ rfl
  refine PyProof.Rows.wpAny_call_entry_kw PyProof.Rows.slot_list_sort ⟨_, hoL, rfl⟩ PyProof.Rows.entry_list_sort (SrtR.list_sort_ordR (s := { s with heap := s.heap.push (seqObj "list" us.toArray 0) }) (b := true) SrtO.swo_int hoL hz (fun h2 => SrtO.ints_sortable hv h2) fun out h1 h2 => ⟨.none, rfl, ?_⟩) (PyProof.Rows.args_list_sort_rev _ _)
  obtain ⟨ys, k1, k2, k3⟩ := SrtR.ints_outR hv h1 h2
  obtain ⟨ep, he⟩ := PyProof.Rows.sortedHeap_at (vs := us) (out := if true = true then out.toArray.reverse else out.toArray) hoL
  have hyl : (ys.map V.int).length ≤ sizeLine := by
    have := k2.length_eq
    simp only [List.length_map, sizeLine_eq]
    omega
  have k3 : ys.Pairwise (· ≥ ·) := k3
  refine ⟨.ref s.heap.objs.size, upd H s.heap.objs.size (.lst (ys.map V.int)), I.laid (t' := s.toks) (fun b o e => ?_) (Nat.le_refl _) (show ObjOk X.prog X.w _ _ _ (.lst (ys.map V.int)) from ⟨hyl, _, ep, vals_of_ints k1, by rw [Array.toArray_toList]; exact he⟩), rfl, q ys _ k2 k3 (I.hok.fresh (Nat.le_refl _))⟩
  have hb := Heap.lt_size e
  rw [PyProof.Rows.sortedHeap_old (Nat.ne_of_lt hb) (by rw [PyProof.Rows.size_push']; exact Nat.lt_succ_of_lt hb)]
  exact Heap.get?_push_of_some _ e
/-- sorted(d, reverse=True) of a dict with ints -/
def rSortedDR : List V → List V → Hp → VK → Prop := fun xs zs H Q => ∃ (a : Addr) (kvs : List (Key × V)) (ks : List Int), xs = [.ref a] ∧ zs = [.bl true] ∧ Rd H a (.dK kvs) ∧ kvs.map (·.1) = ks.map Sum.inl ∧ ks.length ≤ 1000 ∧
  ∀ (ys : List Int) (p : Addr), ys.Perm ks → ys.Pairwise (· ≥ ·) → H p = none → Q (.ref p) (upd H p (.lst (ys.map V.int)))
theorem cr_sortedDR (hcalm : X.calm = true) : CallRK X (.builtin "sorted") [Str.ofString "reverse"] rSortedDR := by
  intro pins s σ H xs zs us ws Q I r rz ⟨a, kvs, ks, ex, ez, hd, hks, hl, q⟩
  subst ex ez
  obtain ⟨u, rfl, rx⟩ := vals1 r
  obtain ⟨w1, rfl, rw1⟩ := vals1 rz
  cases rx
  obtain rfl : w1 = Value.bool true := rw1
  obtain ⟨z, lo, vs, rel, dd⟩ := dk_rd I.hok hd
  obtain ⟨ep, hat⟩ := dd.dictAt
  have hkeys : vs.map (·.1) = ks.map Sum.inl := rel.keys.symm.trans hks
  have hvl : vs.length = ks.length := by simpa using congrArg List.length hkeys
  refine sorted_by (Gd := fun vs s1 => IntsAre vs ks ∧ Inv X pins σ H s1) (PyProof.Rows.args_sorted_rev _ _) (fun R hR => ?_) (fun us s1 g => by rw [g.1.length, sizeLine_eq]; omega) (fun us s1 g => sortR_ok g.2 g.1 hl q)
  refine PySem.W.kdu_collect (A := X.A.in1) (PySem.W.kdl_dict (knd := mixKind X.prog X.w) (kvs := vs) (ep := ep) lo) (I.ok.hd hcalm) hat (by rw [hvl, sizeLine_eq]; omega) fun h' tk acc hk hacc => hR _ _ ⟨?_, I.kept hk⟩
  have hal : acc.toList.length = ks.length := by rw [Array.length_toList, hacc.1, hvl]
  refine ints_each hal fun j v e => ?_
  obtain ⟨k, x, e1, e2⟩ := hacc.2 j v (by rw [← Array.getElem?_toList]; exact e)
  have e3 : (ks.map Sum.inl)[j]? = some k := by rw [← hkeys, List.getElem?_map, e1]; rfl
  rw [List.getElem?_map] at e3
  cases e4 : ks[j]? with
  | none => rw [e4] at e3; cases e3
  | some y =>
    rw [e4] at e3
    obtain rfl := Option.some.inj e3
    obtain ⟨t, ev⟩ := Value.isInt_shape (k := y) (v := v) e2
    exact ⟨y, t, rfl, ev⟩
end
end WL
end
section
set_option Elab.async false
set_option linter.all false
set_option maxRecDepth 100000
set_option maxHeartbeats 4000000
/-! LayG: objects. -/
namespace WL
open PySem PySem.Spec PyProof.Rows L2 Evl HeadW
/-- one of many types -/
def tyEx {ι : Type} (P : ι → Prop) (T : ι → Ty) : Ty := ⟨fun v H => ∃ i, P i ∧ (T i).p v H, fun e ⟨i, h1, h2⟩ => ⟨i, h1, (T i).up e h2⟩⟩
/-- an instance with these fields -/
def tyO (C : Addr) (fs : List (Str × Ty)) : Ty := ⟨fun v H => ∃ x dx ws, v = .ref x ∧ H x = some (.ins C dx ((fs.map Prod.fst).zip ws)) ∧ AllT H ws (fs.map Prod.snd), fun e ⟨x, dx, ws, h1, h2, h3⟩ => ⟨x, dx, ws, h1, e x _ h2, h3.up e⟩⟩
section
variable {K : PySem.W.Frag} {M : List Addr} {σ : L2.St} {H H' : Hp} {te ta tb : TE} {T : Ty} {D : Ends} {g : TG} {i j : Nat} {C : Addr} {Ts : List Ty} {fs : List (Str × Ty)} {f m : Str}
theorem zip_lookup {H : Hp} : ∀ {fs : List (Str × Ty)} {ws : List V} {f : Str} {T : Ty}, AllT H ws (fs.map Prod.snd) → fs.lookup f = some T → ∃ v, ((fs.map Prod.fst).zip ws).lookup f = some v ∧ T.p v H
  | [], _, _, _, _, h => by simp at h
  | (g, U) :: fs, _, f, T, .cons (v := v) a b, h => by
    rw [List.lookup_cons] at h
    rw [List.map_cons, List.zip_cons_cons, List.lookup_cons]
    cases e : f == g with
    | true =>
      simp only [e] at h
      injection h with h
      subst h
      exact ⟨v, rfl, a⟩
    | false =>
      simp only [e] at h
      exact zip_lookup b h
theorem zip_lookup_none : ∀ {fs : List (Str × Ty)} {ws : List V} {f : Str}, fs.lookup f = none → ((fs.map Prod.fst).zip ws).lookup f = none
  | [], _, _, _ => rfl
  | (g, U) :: fs, [], f, _ => rfl
  | (g, U) :: fs, v :: ws, f, h => by
    rw [List.lookup_cons] at h
    rw [List.map_cons, List.zip_cons_cons, List.lookup_cons]
    cases e : f == g with
    | true => simp [e] at h
    | false =>
      simp only [e] at h
      exact zip_lookup_none h
theorem eg_fld (hc : Cls K C) (hn : NoAttr K C f) (hf : fs.lookup f = some T) (h : EG M te σ H (tyO C fs)) : EG M (tFld K te f) σ H T := fun hM H1 e Q q =>
  h hM H1 e _ fun v H2 e2 ⟨x, dx, ws, hv, hx, hw⟩ => by
    obtain ⟨u, h1, h2⟩ := zip_lookup hw hf
    exact ⟨x, C, dx, _, u, hv, hide_sub _ _ _ _ hx, hc, hn, h1, q u H2 e2 h2⟩
theorem eg_meth {R : List Ty → Ty → Prop} {E : XK} {t : TA} (h : EG M te σ H (tyO C fs)) (hm : fs.lookup m = none) (ha : EGA M t σ H Ts) (r : R (tyO C fs :: Ts) T) : EG M (tMeth C m (SpT R) [] E te t) σ H T := fun hM H1 e Q q =>
  h hM H1 e _ fun v H2 e2 hv => by
    obtain ⟨x, dx, ws, ev, hx, hw⟩ := id hv
    refine ⟨x, dx, _, ev, hide_sub _ _ _ _ hx, zip_lookup_none hm, ha hM H2 (e.trans e2) _ fun vs H3 e3 h3 => ?_⟩
    refine ⟨M, _, T, hM.ex ((e.trans e2).trans e3), .cons ((tyO C fs).up (hide_ex e3) hv) (by rw [List.append_nil]; exact h3), r, fun u H4 e4 h4 => q u H4 ((e2.trans e3).trans e4) h4⟩
/-- what __init__ does -/
def SpI (C : Addr) (R : List Ty → (List (Str × Ty) → Prop) → Prop) : Sp := fun vs H Q _ => ∃ M x dx ws Ts P, vs = .ref x :: ws ∧ MOk M H ∧ x ∈ M ∧ H x = some (.ins C dx []) ∧ AllT (hide M H) ws Ts ∧ R Ts P ∧
  ∀ H' fs us, Fr [x] M H M H' → H' x = some (.ins C dx ((fs.map Prod.fst).zip us)) → AllT (hide M H') us (fs.map Prod.snd) → P fs → Q .non H'
theorem eg_make {R : List Ty → (List (Str × Ty) → Prop) → Prop} {P : List (Str × Ty) → Prop} {E : XK} {t : TA} (h : EGA M t σ H Ts) (r : R Ts P) : EG M (tMake C (SpI C R) [] E t) σ H (tyEx P (tyO C)) := fun hM H1 e Q q =>
  h hM H1 e _ fun vs H2 e2 h2 => fun x dx hx hd hne => by
    have hM2 := hM.ex (e.trans e2)
    have f0 : Fr [] M H2 M (upd H2 dx (.own x)) := (Fr.refl hM2).gex (Ex.new hd)
    have hx' : (upd H2 dx (.own x)) x = none := by rw [upd_ne (Ne.symm hne)]; exact hx
    have f1 : Fr [] M H2 (x :: M) (upd (upd H2 dx (.own x)) x (.ins C dx [])) := f0.new hx'
    refine ⟨x :: M, x, dx, vs, Ts, P, by rw [List.append_nil], f1.ok, by simp, upd_same, h2.up f1.vis, r, fun H' fs us f hx3 hu hP => ⟨rfl, q _ H' (e2.trans ?_) ⟨fs, hP, x, dx, us, rfl, ?_, ?_⟩⟩⟩
    · intro a o ha
      exact f.keep a o (by simp; exact ne_of_none ha hx) (f1.out a o ha)
    · rw [hide_out (hM2.new hx)]
      exact hx3
    · exact hu.up (hide_less fun a ha => List.mem_cons_of_mem _ ha)
theorem spI_len {R : List Ty → (List (Str × Ty) → Prop) → Prop} {n : Nat} (h : ∀ Ts P, R Ts P → Ts.length = n) : ∀ vs H Q E, SpI C R vs H Q E → vs.length = n + 1 := fun vs H Q E ⟨M, x, dx, ws, Ts, P, e, _, _, _, h1, h2, _⟩ => by
  rw [e, List.length_cons, h1.len, h Ts P h2]
/-- self.f = e -/
theorem s_fld {x dx : Addr} {l : List (Str × V)} (hM : MOk M H) (hi : σ[i]? = some (some (.ref x))) (hx : H x = some (.ins C dx l)) (hc : Cls K C) (hn : NoAttr K C f) (hl : l.length < 1000) (h : EG M te σ H T)
    (k : ∀ v H1, Ex H H1 → T.p v (hide M H1) → D.nx σ (upd H1 x (.ins C dx (putF f v l)))) : sFld K (tVar i) te f D σ H := h hM H (Ex.refl H) _ fun v H1 e hv => ⟨.ref x, hi, x, C, dx, l, rfl, e x _ hx, hc, hn, hl, k v H1 e hv⟩
/-- a vector is no list -/
theorem dV_hide {p : Addr} {xs : List V} {v : V} {r : List Int} (h : Dp K (hide M H) v (dV r)) (hp : H p = some (.lst xs)) : Dp K (hide (p :: M) H) v (dV r) := by
  obtain ⟨a, rfl, hs⟩ := dp_vec h
  refine vec_dp ?_
  rcases hs with (hs | ⟨o, hs⟩) | hs
  · have h2 := hide_sub _ _ _ _ hs
    have hne : a ≠ p := fun z => by subst z; rw [hp] at h2; injection h2 with h2; cases h2
    have h3 : a ∉ M := fun z => by rw [hide_in z] at hs; cases hs
    exact .inl (.inl (by rw [hide_out (by simp [hne, h3])]; exact h2))
  · have h2 := hide_sub _ _ _ _ hs
    have hne : a ≠ p := fun z => by subst z; rw [hp] at h2; injection h2 with h2; cases h2
    have h3 : a ∉ M := fun z => by rw [hide_in z] at hs; cases hs
    exact .inl (.inr ⟨o, by rw [hide_out (by simp [hne, h3])]; exact h2⟩)
  · exact .inr hs
theorem ed_hide {p : Addr} {xs : List V} {r : List Int} (h : ED K M te σ H (dV r)) (hp : H p = some (.lst xs)) : ED K (p :: M) te σ H (dV r) := fun hM H1 e Q q => h (fun a ha => hM a (by simp [ha])) H1 e Q fun v H2 e2 hv => q v H2 e2 (dV_hide hv ((e.trans e2) p _ hp))
/-- xs.insert(0, e) -/
def rIns0 : V → List V → Hp → VK → Prop := fun x vs H Q => ∃ (l : Addr) (xs : List V) (i : Int) (y : V), x = .ref l ∧ vs = [.int i, y] ∧ H l = some (.lst xs) ∧ xs.length < sizeLine ∧ 0 ≤ i ∧ i < 2 ^ 63 ∧
    Q .non (upd H l (.lst (xs.take i.toNat ++ [y] ++ xs.drop i.toNat)))
theorem s_insert0 {l : Addr} {xs : List V} (hM : MOk M H) (hl : H l = some (.lst xs)) (hs : σ[i]? = some (some (.ref l))) (h : EG M te σ H T) (hz : xs.length < 200000) (k : ∀ v H1, Ex H H1 → T.p v (hide M H1) → D.nx σ (upd H1 l (.lst (v :: xs)))) :
    tDrop (tBM K "list" rIns0 (tVar i) (tCons (tC (.int 0)) (tCons te tNil))) D σ H :=
  ⟨.ref l, hs, tyV_l hl, h hM H (Ex.refl H) _ fun v H1 e hv => ⟨l, xs, 0, v, rfl, rfl, e l _ hl, sz_of' hz, by decide, by decide, k v H1 e hv⟩⟩
end
end WL
end
section
set_option Elab.async false
set_option linter.all false
set_option maxRecDepth 100000
set_option maxHeartbeats 4000000
/-! D4: insert. -/
namespace WL
open PySem PySem.Spec PyProof.Rows L2 Evl HeadW
section
variable {w : World} {K : PySem.W.Frag} {mg : Str → Option Value} {base : Heap}
theorem dpAll_snoc {H : Hp} : ∀ {vs : List V} {ds : List PyData} {d : PyData}, DpAll K H vs (ds ++ [d]) → ∃ us u, vs = us ++ [u] ∧ DpAll K H us ds ∧ Dp K H u d
  | _, [], _, h => by
    cases h with
    | cons a b => cases b; exact ⟨[], _, rfl, .nil, a⟩
  | _, e :: ds, d, h => by
    cases h with
    | cons a b =>
      obtain ⟨us, u, rfl, h1, h2⟩ := dpAll_snoc b
      exact ⟨_ :: us, u, rfl, .cons a h1, h2⟩
abbrev N_insert : List Str := ["pivots", "vector", "width", "modulus", "pending", "current", "lead", "unit", "pivot", "quotient", "elder", "g", "s", "t"]
theorem sc_insert : FnScope N_insert ["pivots", "vector", "width", "modulus"] d_insert.scope := ⟨rfl, rfl, rfl, by decide +kernel, rfl, by decide +kernel, by decide +kernel⟩
theorem bi_insert (kV doc pm : Value) (an : Option Addr) (cdv ct : Value) (us : List Value) (hl : us.length = 4) : bindArgs (PySem.W.fnOf d_insert.name d_insert.qual d_insert.params d_insert.body d_insert.scope .none kV doc pm an cdv ct) ⟨us, []⟩ = pure ((["pivots", "vector", "width", "modulus"] : List Str).zip us) := by
  match us, hl with
  | [_, _, _, _], _ => rfl

def sp_insert (K : PySem.W.Frag) : Sp := fun vs H Q _ => ∃ (M : List Addr) (d : Addr) (v : V) (n : Nat) (m : Int) (kvs : List (Key × V)) (L : WM.Pv) (u : List Int) (G : WM.F → Prop),
  vs = [.ref d, v, .int n, .int m] ∧ MOk M H ∧ d ∈ M ∧ H d = some (.dK kvs) ∧ KvOk K (hide M H) kvs L ∧ Dp K (hide M H) v (dV u) ∧ 2 ≤ m ∧ m ≤ 60 ∧ n ≤ 13 ∧ WM.Vec m n u ∧ WM.Hw m n G L ∧
  ∀ H' kvs' L', Fr [d] M H M H' → H' d = some (.dK kvs') → KvOk K (hide M H') kvs' L' → WM.Hw m n (fun f => G f ∨ f = WM.at_ u) L' → Q .non H'
theorem cal_insert (G : Glb w K mg base) : C8.Cal PP w K mg base 4 "insert" (sp_insert K) [] :=
  cal_mk G 15 (d := d_insert) rfl rfl G.g_insert rfl sc_insert (fun vs H Q E ⟨_, _, _, _, _, _, _, _, _, h, _⟩ => by rw [h]; rfl) bi_insert (fun f cdv A outer s H vs Q E hr hsp => by
    obtain ⟨M, d, v, n, m, kvs, L, u, GG, rfl, hM, hdM, hd, hkv, hu, hm2, hm60, hn, hvec, hw, hq⟩ := hsp
    have hm : 0 < m := by omega
    refine ⟨_, (pss_cons (ps_set (i := 4) sc_insert.nd rfl (by first | exact Or.inl rfl | exact Or.inr rfl) (pe_lst (pa_cons (pv 1) pa_nil)))
      (pss_one (ps_while PassesOwn.never (pt_cmpR (op_neD hr.units) (pv 4) (pe_lst pa_nil) (nomark _)) (pss_cons (ps_set (i := 5) sc_insert.nd rfl (by first | exact Or.inl rfl | exact Or.inr rfl) (pe_bm0 PySem.F.plainAttrs_list PySem.F.slot_list_pop PySem.F.type_list_pop mt_pop (pv 4)))
      (pss_cons (ps_set (i := 6) sc_insert.nd rfl (by first | exact Or.inl rfl | exact Or.inr rfl) (C8.pe_c (cal_lead_within G) hr (by decide) (by rfl) (pa_cons (pv 5) (pa_cons (pv 2) pa_nil))))
      (pss_cons (ps_if (pt_cmpR op_isN1 (pv 6) pe_non (nomark _)) (pss_one ps_continue) pss_nil)
      (Evl.pss_cut (ps_if (pt_cmp (pc_dnotin (hu_of hr) (pv 6) (pv 0))) (pss_cons (ps_set (i := 7) sc_insert.nd rfl (by first | exact Or.inl rfl | exact Or.inr rfl) (C8.pe_c (cal_normalizer G) hr (by decide) (by rfl) (pa_cons (pe_ix ix_tup (pv 5) (pv 6) (fun _ _ => rfl)) (pa_cons (pv 3) pa_nil))))
      (pss_one (ps_set (i := 8) sc_insert.nd rfl (by first | exact Or.inl rfl | exact Or.inr rfl) (C8.pe_c (cal_combine G) hr (by decide) (by rfl) (pa_cons (pv 5) (pa_cons (pv 7) (pa_cons (pv 5) (pa_cons pe_int (pa_cons (pv 3) pa_nil))))))))) (pss_one (ps_if (pt_cmpR op_eq (pe_op op_mod (pe_ix ix_tup (pv 5) (pv 6) (fun _ _ => rfl)) (pe_ix ix_tup (pe_dget (hu_of hr) (pv 0) (pv 6) (fun _ _ => rfl)) (pv 6) (fun _ _ => rfl))) pe_int (nomark _)) (pss_cons (ps_set (i := 9) sc_insert.nd rfl (by first | exact Or.inl rfl | exact Or.inr rfl) (pe_op op_fdiv (pe_ix ix_tup (pv 5) (pv 6) (fun _ _ => rfl)) (pe_ix ix_tup (pe_dget (hu_of hr) (pv 0) (pv 6) (fun _ _ => rfl)) (pv 6) (fun _ _ => rfl))))
      (pss_cons (ps_expr (pe_bm PySem.F.plainAttrs_list PySem.F.slot_list_append PySem.F.type_list_append mt_append (pv 4) (pa_cons (C8.pe_c (cal_combine G) hr (by decide) (by rfl) (pa_cons (pv 5) (pa_cons pe_int (pa_cons (pe_dget (hu_of hr) (pv 0) (pv 6) (fun _ _ => rfl)) (pa_cons (pe_un un_neg (pv 9)) (pa_cons (pv 3) pa_nil)))))) pa_nil)))
      (pss_one ps_continue))) (pss_cons (ps_set (i := 10) sc_insert.nd rfl (by first | exact Or.inl rfl | exact Or.inr rfl) (pe_dget (hu_of hr) (pv 0) (pv 6) (fun _ _ => rfl)))
      (pss_cons (ps_asg (C8.pe_c (cal_bezout G) hr (by decide) (by rfl) (pa_cons (pe_ix ix_tup (pv 10) (pv 6) (fun _ _ => rfl)) (pa_cons (pe_ix ix_tup (pv 5) (pv 6) (fun _ _ => rfl)) pa_nil))) (pg_tup rfl (pgs_cons (pg_name (i := 11) sc_insert.nd rfl (by first | exact Or.inl rfl | exact Or.inr rfl)) (pgs_cons (pg_name (i := 12) sc_insert.nd rfl (by first | exact Or.inl rfl | exact Or.inr rfl)) (pgs_cons (pg_name (i := 13) sc_insert.nd rfl (by first | exact Or.inl rfl | exact Or.inr rfl)) pgs_nil)))))
      (pss_cons (ps_set (i := 8) sc_insert.nd rfl (by first | exact Or.inl rfl | exact Or.inr rfl) (C8.pe_c (cal_combine G) hr (by decide) (by rfl) (pa_cons (pv 10) (pa_cons (pv 12) (pa_cons (pv 5) (pa_cons (pv 13) (pa_cons (pv 3) pa_nil)))))))
      (pss_cons (ps_expr (pe_bm PySem.F.plainAttrs_list PySem.F.slot_list_append PySem.F.type_list_append mt_append (pv 4) (pa_cons (C8.pe_c (cal_combine G) hr (by decide) (by rfl) (pa_cons (pv 10) (pa_cons pe_int (pa_cons (pv 8) (pa_cons (pe_un un_neg (pe_op op_fdiv (pe_ix ix_tup (pv 10) (pv 6) (fun _ _ => rfl)) (pv 11))) (pa_cons (pv 3) pa_nil)))))) pa_nil)))
      (pss_one (ps_expr (pe_bm PySem.F.plainAttrs_list PySem.F.slot_list_append PySem.F.type_list_append mt_append (pv 4) (pa_cons (C8.pe_c (cal_combine G) hr (by decide) (by rfl) (pa_cons (pv 5) (pa_cons pe_int (pa_cons (pv 8) (pa_cons (pe_un un_neg (pe_op op_fdiv (pe_ix ix_tup (pv 5) (pv 6) (fun _ _ => rfl)) (pv 11))) (pa_cons (pv 3) pa_nil)))))) pa_nil)))))))))))
      (pss_cons (ps_dput (hu_of hr) (pv 0) (pv 6) (pv 8) rfl)
      (pss_one (ps_expr (pe_bm PySem.F.plainAttrs_list PySem.F.slot_list_append PySem.F.type_list_append mt_append (pv 4) (pa_cons (C8.pe_c (cal_combine G) hr (by decide) (by rfl) (pa_cons (pv 8) (pa_cons (pe_op op_fdiv (pv 3) (pe_ix ix_tup (pv 8) (pv 6) (fun _ _ => rfl))) (pa_cons (pv 8) (pa_cons pe_int (pa_cons (pv 3) pa_nil)))))) pa_nil)))))))))))), ?_⟩
    refine s_newL (Ts := [tV K u]) hM (ega_one (eg_var rfl hu)) (by simp) fun p xs H1 e1 hp hxs => ?_
    dsimp only
    obtain ⟨x1, rfl, hx1⟩ := allT1 hxs
    have fr1 : Fr [d] M H (p :: M) (upd H1 p (.lst [x1])) := ((Fr.refl hM).gex e1).new hp
    have hHp : H p = none := fresh_back e1 hp
    have hdp : d ≠ p := ne_of_none hd hHp
    refine s_while (fun k σ' H' => ∃ xs kvs L ps x5 x6 x7 x8 x9 x10 x11 x12 x13, σ' = [some (.ref d), some v, some (.int n), some (.int m), some (.ref p), x5, x6, x7, x8, x9, x10, x11, x12, x13] ∧ Fr [d] M H (p :: M) H' ∧ H' p = some (.lst xs) ∧ DpAll K (hide (p :: M) H') xs (ps.map dV) ∧
      H' d = some (.dK kvs) ∧ KvOk K (hide (p :: M) H') kvs L ∧ WM.InsOk m n (fun f => GG f ∨ f = WM.at_ u) L ps ∧ k = WM.msr m n L ps ∧ k ≤ 100000) (WM.msr m n L [u])
      ⟨[x1], kvs, L, [u], none, none, none, none, none, none, none, none, none, rfl, fr1, upd_same, .cons (by rw [hide_upd (by simp)]; exact hx1.mono (hide_cons hp)) .nil, by rw [upd_ne hdp]; exact e1 d _ hd, hkv.up fr1.vis, hw.start hvec, rfl, WM.msr_le hm hm60 hn hw.piv u⟩ ?_
    rintro k σ' H' ⟨xs, kvs, L, ps, x5, x6, x7, x8, x9, x10, x11, x12, x13, rfl, fr, hpx, hxs, hdk, hkv, hok, rfl, hk⟩
    refine ⟨p :: M, _, fr.ok, et_ne_nil (ds := ps.map dV) rfl hpx hxs (shaped_dL ps), fun hb H2 e2 => ?_, fun hb H2 e2 => ?_⟩
    · obtain ⟨ps0, c, rfl⟩ : ∃ ps0 c, ps = ps0 ++ [c] := by
        rcases List.eq_nil_or_concat ps with rfl | ⟨ps0, c, rfl⟩
        · simp at hb
        · exact ⟨ps0, c, by simp⟩
      rw [List.map_append] at hxs
      obtain ⟨xs0, xc, rfl, hxs0, hxc⟩ := dpAll_snoc hxs
      have f2 := fr.gex e2
      have f3 := f2.upd (a := p) (o := .lst xs0) (by simp) (.inr hHp)
      have ex3 : Ex (hide (p :: M) H') (hide (p :: M) (upd H2 p (.lst xs0))) := by rw [hide_upd (by simp)]; exact hide_ex e2
      have hlen : ps0.length + 1 ≤ 100000 := by
        have := WM.len_le_msr m n L (ps0 ++ [c])
        simp at this
        omega
      have hcl : xs0.length = ps0.length := by rw [dpAll_len hxs0, List.length_map]
      refine s_pop (e2 p _ hpx) rfl ?_
      have p3 : (upd H2 p (.lst xs0)) p = some (.lst xs0) := upd_same
      have d3 : (upd H2 p (.lst xs0)) d = some (.dK kvs) := by rw [upd_ne hdp]; exact e2 d _ hdk
      have hxs3 := hxs0.mono ex3
      have hxc3 := hxc.mono ex3
      have hkv3 := hkv.up ex3
      generalize upd H2 p (.lst xs0) = H3 at f3 p3 d3 hxs3 hxc3 hkv3
      dsimp only
      have V := hok.vec c (by simp)
      have Vs := vec_sm V hm (by omega) (by omega)
      refine sd_set f3.ok (ed_call (R := R_lead_within K) (ega_d (ed_var rfl hxc3) (ega_d (ed_varI rfl) ega_nil)) ⟨c, n, rfl, by rw [V.len]; exact Nat.le_refl _, by omega, rfl⟩) fun v6 H4 e4 h6 => ?_
      dsimp only
      by_cases hlead : WM.lead n (WM.at_ c) < n
      · have h6 : Dp K (hide (p :: M) H4) v6 (.int (WM.lead n (WM.at_ c) : Nat)) := by
          unfold leadD at h6
          rw [if_pos hlead] at h6
          exact h6
        have hkz := WM.lead_zero n (WM.at_ c)
        have hck := WM.lead_at n (WM.at_ c) hlead
        generalize WM.lead n (WM.at_ c) = k at hlead h6 hkz hck
        cases dp_int h6
        refine sd_if (b := false) (f3.gex e4).ok ((et_test (ed_isN (ed_var rfl h6))).to rfl) (fun hb => by cases hb) fun _ H5 e5 => ?_
        dsimp only [tNext]
        have e45 := e4.trans e5
        have f5 := f3.gex e45
        have p5 := e45 p _ p3
        have d5 := e45 d _ d3
        have hxs5 := hxs3.mono (hide_ex (M := p :: M) e45)
        have hxc5 := hxc3.mono (hide_ex (M := p :: M) e45)
        have hkv5 := hkv3.up (hide_ex (M := p :: M) e45)
        have hcat := V.at hm k
        have hkl : k < c.length := by rw [V.len]; exact hlead
        refine ⟨fun σ' H' => ∃ xs qs pv p' y7 y9 y10 y11 y12 y13, σ' = [some (.ref d), some v, some (.int n), some (.int m), some (.ref p), some xc, some (.int k), y7, some pv, y9, y10, y11, y12, y13] ∧ Fr [d] M H (p :: M) H' ∧ H' p = some (.lst xs) ∧ DpAll K (hide (p :: M) H') xs ((ps0 ++ qs).map dV) ∧ qs.length ≤ 2 ∧
          H' d = some (.dK kvs) ∧ KvOk K (hide (p :: M) H') kvs L ∧ Dp K (hide (p :: M) H') pv (dV p') ∧ WM.Vec m n p' ∧ 0 < WM.at_ p' k ∧
          WM.InsOk m n (fun f => GG f ∨ f = WM.at_ u) (WM.putP L k p') (ps0 ++ qs ++ [WM.comb m (m / WM.at_ p' k) p' 0 p']) ∧ WM.msr m n (WM.putP L k p') (ps0 ++ qs ++ [WM.comb m (m / WM.at_ p' k) p' 0 p']) < WM.msr m n L (ps0 ++ [c]), ?_, ?_⟩
        · -- the branches
          cases hlk : L.lookup k with
          | none =>
            refine sd_if (b := true) f5.ok ((et_notin rfl rfl d5 hkv5).to (by rw [hlk]; rfl)) (fun _ H6 e6 => ?_) (fun hb => by cases hb)
            have f6 := f5.gex e6
            refine sg_set f6.ok (eg_call (R := R_normalizer K) (ega_d (ed_at hkl (ed_var rfl (hxc5.mono (hide_ex e6))) (ed_varI rfl)) (ega_d (ed_varI rfl) ega_nil)) ⟨WM.at_ c k, m, rfl, by omega, by omega, hm2, hm60, rfl⟩) fun v7 H7 e7 ⟨uu, hu1, hu2, hu3, hu4, h7⟩ => ?_
            cases dp_int h7
            dsimp only
            have e67 := e6.trans e7
            have f7 := f5.gex e67
            have hxc7 := hxc5.mono (hide_ex (M := p :: M) e67)
            refine sd_set f7.ok (ed_call (R := R_combine K) (ega_d (ed_var rfl hxc7) (ega_d (ed_varI rfl) (ega_d (ed_var rfl hxc7) (ega_d ed_int (ega_d (ed_varI rfl) ega_nil))))) ⟨c, uu, c, 0, m, rfl, Vs, Vs, hm, rfl⟩) fun v8 H8 e8 h8 => ?_
            have e58 := e67.trans e8
            obtain ⟨i1, i2, i3⟩ := WM.ins_new hm hok hlead hkz hck (fun r hr => WM.lookup_none hlk r hr) hu1 hu2
            refine ⟨xs0, [], v8, _, _, _, _, _, _, _, rfl, f5.gex e58, e58 p _ p5, by simpa using hxs5.mono (hide_ex e58), by simp, e58 d _ d5, hkv5.up (hide_ex e58), h8, WM.Vec.comb hm V.len V.len, by rw [i3]; have := Int.gcd_pos_of_ne_zero_left m hck; omega, i1, i2⟩
          | some r =>
            have hmem := WM.lookup_mem hlk
            have R := hok.piv.ok k r hmem
            have Rs := vec_sm R.toVec hm (by omega) (by omega)
            have hRm : WM.at_ r k ≤ m := Int.le_of_dvd hm R.dvd
            have hrl : k < r.length := by rw [R.len]; exact hlead
            refine sd_if (b := false) f5.ok ((et_notin rfl rfl d5 hkv5).to (by rw [hlk]; rfl)) (fun hb => by cases hb) (fun _ H6 e6 => ?_)
            have f6 := f5.gex e6
            have hxc6 := hxc5.mono (hide_ex (M := p :: M) e6)
            have hkv6 := hkv5.up (hide_ex (M := p :: M) e6)
            have d6 := e6 d _ d5
            refine sd_if f6.ok (et_test (ed_eqI (ed_mod R.pos (ed_at hkl (ed_var rfl hxc6) (ed_varI rfl)) (ed_at hrl (ed_dget rfl rfl d6 hkv6 hlk) (ed_varI rfl))) ed_int)) (fun hb H7 e7 => ?_) (fun hb H7 e7 => ?_)
            · -- the row divides
              simp at hb
              have e67 := e6.trans e7
              have f7 := f5.gex e67
              have hxc7 := hxc5.mono (hide_ex (M := p :: M) e67)
              have hkv7 := hkv5.up (hide_ex (M := p :: M) e67)
              have d7 := e67 d _ d5
              refine sd_set f7.ok (ed_fdiv ⟨R.pos, by omega⟩ (ed_at hkl (ed_var rfl hxc7) (ed_varI rfl)) (ed_at hrl (ed_dget rfl rfl d7 hkv7 hlk) (ed_varI rfl))) fun v9 H8 e8 h9 => ?_
              cases dp_int h9
              dsimp only
              have e58 := e67.trans e8
              have f8 := f5.gex e58
              have hxc8 := hxc5.mono (hide_ex (M := p :: M) e58)
              have hkv8 := hkv5.up (hide_ex (M := p :: M) e58)
              have d8 := e58 d _ d5
              have p8 := e58 p _ p5
              refine s_append f8.ok p8 rfl (eg_call (R := R_combine K) (ega_d (ed_var rfl hxc8) (ega_d ed_int (ega_d (ed_dget rfl rfl d8 hkv8 hlk) (ega_d (ed_neg (ed_varI rfl)) (ega_d (ed_varI rfl) ega_nil))))) ⟨c, 1, r, _, m, rfl, Vs, Rs, hm, rfl⟩) (by omega) fun va H9 e9 h10 => ?_
              have e59 := e58.trans e9
              have hq1 : WM.at_ c k = WM.at_ r k * (WM.at_ c k / WM.at_ r k) := by
                have := Int.mul_ediv_add_emod (WM.at_ c k) (WM.at_ r k)
                omega
              have hcr : c.length = r.length := by rw [V.len, R.len]
              have hzc : ∀ i, i ≤ k → WM.at_ (WM.comb m 1 c (-(WM.at_ c k / WM.at_ r k)) r) i = 0 := fun i hi => by
                rw [WM.at_comb hcr]
                rcases Nat.lt_or_eq_of_le hi with z | z
                · rw [hkz i z, R.zer i z]; simp
                · subst z
                  have : 1 * WM.at_ c i + -(WM.at_ c i / WM.at_ r i) * WM.at_ r i = 0 := by
                    rw [Int.neg_mul, Int.mul_comm (WM.at_ c i / WM.at_ r i)]
                    omega
                  rw [this]; rfl
              have hms := WM.msr_red (m := m) (L := L) (ps := ps0) hlead hkz hck hzc
              show ∃ m', m' < _ ∧ _
              refine ⟨_, hms, _, kvs, L, ps0 ++ [WM.comb m 1 c (-(WM.at_ c k / WM.at_ r k)) r], _, _, _, _, _, _, _, _, _, rfl, (f5.gex e59).upd (by simp) (.inr hHp), upd_same, ?_, by rw [upd_ne hdp]; exact e59 d _ d5, ?_, hok.red hm hmem hkz hq1, rfl, by omega⟩
              · rw [hide_upd (by simp), List.map_append]
                exact dpAll_app (hxs5.mono (hide_ex e59)) (dpAll_one h10)
              · rw [hide_upd (by simp)]
                exact hkv5.up (hide_ex e59)
            · simp at hb
              have e67 := e6.trans e7
              have f7 := f5.gex e67
              have hkv7 := hkv5.up (hide_ex (M := p :: M) e67)
              have d7 := e67 d _ d5
              refine sd_set f7.ok (ed_dget rfl rfl d7 hkv7 hlk) fun ve H8 e8 hve => ?_
              dsimp only
              have e58 := e67.trans e8
              have f8 := f5.gex e58
              have hxc8 := hxc5.mono (hide_ex (M := p :: M) e58)
              refine sg_bind f8.ok (eg_call (R := R_bezout K) (ega_d (ed_at hrl (ed_var rfl hve) (ed_varI rfl)) (ega_d (ed_at hkl (ed_var rfl hxc8) (ed_varI rfl)) ega_nil)) ⟨WM.at_ r k, WM.at_ c k, rfl, by have := R.pos; omega, by omega, by omega, by omega, rfl⟩) fun vb H9 e9 ⟨s1, t1, hst, hvb⟩ => ?_
              refine g_tup3 hvb fun y11 y12 y13 hg hs ht => ?_
              cases dp_int hg
              cases dp_int hs
              cases dp_int ht
              dsimp only
              have e59 := e58.trans e9
              have f9 := f5.gex e59
              have hve9 := hve.mono (hide_ex (M := p :: M) e9)
              have hxc9 := hxc5.mono (hide_ex (M := p :: M) e59)
              refine sd_set f9.ok (ed_call (R := R_combine K) (ega_d (ed_var rfl hve9) (ega_d (ed_varI rfl) (ega_d (ed_var rfl hxc9) (ega_d (ed_varI rfl) (ega_d (ed_varI rfl) ega_nil))))) ⟨r, s1, c, t1, m, rfl, Rs, Vs, hm, rfl⟩) fun v8 HA eA h8 => ?_
              dsimp only
              have hcr : c.length = r.length := by rw [V.len, R.len]
              have PV : WM.Vec m n (WM.comb m s1 r t1 c) := WM.Vec.comb hm R.len V.len
              have Ps := vec_sm PV hm (by omega) (by omega)
              have hnd : ¬ WM.at_ r k ∣ WM.at_ c k := fun z => hb (Int.emod_eq_zero_of_dvd z)
              obtain ⟨i1, i2, i3⟩ := WM.ins_gcd hm hok hmem hkz hck hnd (s := s1) (t := t1) (by rw [← hst]; grind)
              have gpos : 0 < (Int.gcd (WM.at_ r k) (WM.at_ c k) : Int) := by have := Int.gcd_pos_of_ne_zero_right (WM.at_ r k) hck; omega
              have gle : (Int.gcd (WM.at_ r k) (WM.at_ c k) : Int) ≤ WM.at_ r k := Int.le_of_dvd R.pos (Int.gcd_dvd_left ..)
              have e5A := e59.trans eA
              have fA := f5.gex e5A
              have hveA := hve9.mono (hide_ex (M := p :: M) eA)
              have hxcA := hxc5.mono (hide_ex (M := p :: M) e5A)
              have pA := e5A p _ p5
              refine s_append fA.ok pA rfl (eg_call (R := R_combine K) (ega_d (ed_var rfl hveA) (ega_d ed_int (ega_d (ed_var rfl h8) (ega_d (ed_neg (ed_fdiv ⟨gpos, by omega⟩ (ed_at hrl (ed_var rfl hveA) (ed_varI rfl)) (ed_varI rfl))) (ega_d (ed_varI rfl) ega_nil))))) ⟨r, 1, _, _, m, rfl, Rs, Ps, hm, rfl⟩) (by omega) fun va HB eB h10 => ?_
              dsimp only
              have e5B := e5A.trans eB
              have fB := (f5.gex e5B).upd (a := p) (o := .lst (xs0 ++ [va])) (by simp) (.inr hHp)
              have exB : Ex (hide (p :: M) H5) (hide (p :: M) (upd HB p (.lst (xs0 ++ [va])))) := by rw [hide_upd (by simp)]; exact hide_ex e5B
              have exAB : Ex (hide (p :: M) HA) (hide (p :: M) (upd HB p (.lst (xs0 ++ [va])))) := by rw [hide_upd (by simp)]; exact hide_ex eB
              have pB : (upd HB p (.lst (xs0 ++ [va]))) p = some (.lst (xs0 ++ [va])) := upd_same
              have dB : (upd HB p (.lst (xs0 ++ [va]))) d = some (.dK kvs) := by rw [upd_ne hdp]; exact e5B d _ d5
              have exBB : Ex (hide (p :: M) HB) (hide (p :: M) (upd HB p (.lst (xs0 ++ [va])))) := by rw [hide_upd (by simp)]; exact Ex.refl _
              have h10 := Dp.mono h10 exBB
              generalize upd HB p (.lst (xs0 ++ [va])) = HC at fB exB exAB exBB pB dB h10
              refine s_append fB.ok pB rfl (eg_call (R := R_combine K) (ega_d (ed_var rfl (hxc5.mono exB)) (ega_d ed_int (ega_d (ed_var rfl (h8.mono exAB)) (ega_d (ed_neg (ed_fdiv ⟨gpos, by omega⟩ (ed_at hkl (ed_var rfl (hxc5.mono exB)) (ed_varI rfl)) (ed_varI rfl))) (ega_d (ed_varI rfl) ega_nil))))) ⟨c, 1, _, _, m, rfl, Vs, Ps, hm, rfl⟩) (by simp; omega) fun vb2 HD eD h11 => ?_
              refine ⟨_, [_, _], v8, _, _, _, _, _, _, _, rfl, (fB.gex eD).upd (a := p) (by simp) (.inr hHp), upd_same, ?_, by simp, by rw [upd_ne hdp]; exact eD d _ dB, ?_, ?_, PV, by rw [i3]; exact gpos, i1, i2⟩
              · rw [hide_upd (by simp), List.map_append, List.append_assoc]
                exact dpAll_app (hxs5.mono (exB.trans (hide_ex eD))) (.cons (h10.mono (hide_ex eD)) (dpAll_one h11))
              · rw [hide_upd (by simp)]
                exact hkv5.up (exB.trans (hide_ex eD))
              · rw [hide_upd (by simp)]
                exact h8.mono (exAB.trans (hide_ex eD))
        · -- the pivot is stored
          rintro σ6 H6 ⟨xs, qs, pv, p', y7, y9, y10, y11, y12, y13, rfl, f6, p6, hxs6, hql, d6, hkv6, hpv, VP, hpp, hins, hms⟩
          have hLn := hok.piv.len_le
          refine s_dput (l := 8) rfl rfl rfl d6 (by rw [hkv6.len]; omega) ?_
          have f7 := f6.upd (a := d) (o := .dK (putK kvs (.inl (k : Int)) pv)) (by simp [hdM]) (.inl (by simp))
          have ex7 : Ex (hide (p :: M) H6) (hide (p :: M) (upd H6 d (.dK (putK kvs (.inl (k : Int)) pv)))) := by rw [hide_upd (by simp [hdM])]; exact Ex.refl _
          have p7 : (upd H6 d (.dK (putK kvs (.inl (k : Int)) pv))) p = some (.lst xs) := by rw [upd_ne hdp.symm]; exact p6
          have d7 : (upd H6 d (.dK (putK kvs (.inl (k : Int)) pv))) d = some (.dK (putK kvs (.inl (k : Int)) pv)) := upd_same
          generalize upd H6 d (.dK (putK kvs (.inl (k : Int)) pv)) = H7 at f7 ex7 p7 d7
          dsimp only
          have hpv7 := hpv.mono ex7
          have hk' : k < p'.length := by rw [VP.len]; exact hlead
          have Ps := vec_sm VP hm (by omega) (by omega)
          have hpa := VP.at hm k
          have hxl : xs.length = ps0.length + qs.length := by rw [dpAll_len hxs6, List.length_map, List.length_append]
          refine s_append f7.ok p7 rfl (eg_call (R := R_combine K) (ega_d (ed_var rfl hpv7) (ega_d (ed_fdiv ⟨hpp, by omega⟩ (ed_varI rfl) (ed_at hk' (ed_var rfl hpv7) (ed_varI rfl))) (ega_d (ed_var rfl hpv7) (ega_d ed_int (ega_d (ed_varI rfl) ega_nil))))) ⟨p', _, p', 0, m, rfl, Ps, Ps, hm, rfl⟩) (by omega) fun va H8 e8 h10 => ?_
          refine ⟨_, hms, _, _, _, _, _, _, _, _, _, _, _, _, _, rfl, (f7.gex e8).upd (by simp) (.inr hHp), upd_same, ?_, by rw [upd_ne hdp]; exact e8 d _ d7, ?_, hins, rfl, by omega⟩
          · rw [hide_upd (by simp), List.map_append]
            exact dpAll_app (hxs6.mono (ex7.trans (hide_ex e8))) (dpAll_one h10)
          · rw [hide_upd (by simp)]
            exact (hkv6.put hpv).up (ex7.trans (hide_ex e8))
      · have h6 : v6 = .non := by
          unfold leadD at h6
          rw [if_neg hlead] at h6
          exact dp_non h6
        subst h6
        have f4 := f3.gex e4
        refine sd_if (b := true) f4.ok ((et_test (ed_isN (K := K) (d1 := .none) (ed_var rfl .non))).to rfl) (fun _ H5 e5 => ?_) (fun hb => by cases hb)
        have e45 := e4.trans e5
        show ∃ m', m' < _ ∧ _
        have hms := WM.msr_zero (m := m) (n := n) (L := L) (ps := ps0) (c := c)
        exact ⟨_, hms, xs0, kvs, L, ps0, _, _, _, _, _, _, _, _, _, rfl, f3.gex e45, e45 p _ p3, hxs3.mono (hide_ex e45), e45 d _ d3, hkv3.up (hide_ex e45), hok.zero (fun i hi => WM.lead_zero n (WM.at_ c) i (by omega)), rfl, by omega⟩
    · have : ps = [] := by
        cases ps with
        | nil => rfl
        | cons a b => simp at hb
      subst this
      have f2 := fr.gex e2
      have hl : ∀ a ∈ M, a ∈ p :: M := fun a ha => by simp [ha]
      exact hq H2 kvs L (f2.back hl) (e2 d _ hdk) ((hkv.up (hide_ex e2)).up (hide_less hl)) hok.done)
end
end WL
end
section
set_option Elab.async false
set_option linter.all false
set_option maxRecDepth 100000
set_option maxHeartbeats 4000000
/-! D5: pivots_of, table_of, Span. -/
namespace WL
open PySem PySem.Spec PyProof.Rows L2 Evl HeadW
section
variable {w : World} {K : PySem.W.Frag} {mg : Str → Option Value} {base : Heap}
/-- the dict of some pivots -/
def tyDK (K : PySem.W.Frag) (L : WM.Pv) : Ty := ⟨fun v H => ∃ d kvs, v = .ref d ∧ H d = some (.dK kvs) ∧ KvOk K H kvs L, fun e ⟨d, kvs, h1, h2, h3⟩ => ⟨d, kvs, h1, e d _ h2, h3.up e⟩⟩
abbrev GenL (us : List (List Int)) : WM.F → Prop := fun f => ∃ u ∈ us, f = WM.at_ u
abbrev N_pivots_of : List Str := ["vectors", "width", "modulus", "pivots", "vector"]
theorem sc_pivots_of : FnScope N_pivots_of ["vectors", "width", "modulus"] d_pivots_of.scope := ⟨rfl, rfl, rfl, by decide +kernel, rfl, by decide +kernel, by decide +kernel⟩
theorem bi_pivots_of (kV doc pm : Value) (an : Option Addr) (cdv ct : Value) (us : List Value) (hl : us.length = 3) : bindArgs (PySem.W.fnOf d_pivots_of.name d_pivots_of.qual d_pivots_of.params d_pivots_of.body d_pivots_of.scope .none kV doc pm an cdv ct) ⟨us, []⟩ = pure ((["vectors", "width", "modulus"] : List Str).zip us) := by
  match us, hl with
  | [_, _, _], _ => rfl

def R_pivots_of (K : PySem.W.Frag) (Ts : List Ty) (T : Ty) : Prop := ∃ (us : List (List Int)) (n : Nat) (m : Int), Ts = [dat K (dL us), tI K n, tI K m] ∧ 2 ≤ m ∧ m ≤ 60 ∧ n ≤ 13 ∧ us.length ≤ 1000 ∧ (∀ u ∈ us, WM.Vec m n u) ∧ T = tyEx (WM.Hw m n (GenL us)) (tyDK K)
theorem cal_pivots_of (G : Glb w K mg base) : C8.Cal PP w K mg base 5 "pivots_of" (SpT (R_pivots_of K)) [] :=
  cal_mk G 16 (d := d_pivots_of) rfl rfl G.g_pivots_of rfl sc_pivots_of (spT_len fun Ts T ⟨_, _, _, h, _⟩ => by rw [h]; rfl) bi_pivots_of (fun f cdv A outer s H vs Q E hr hsp => by
    obtain ⟨M, Ts, T, hM, hv, ⟨us, n, m, rfl, hm, hm60, hn, hl, hvec, rfl⟩, hq⟩ := hsp
    obtain ⟨v1, v2, v3, rfl, h1, h2, h3⟩ := allT3 hv
    cases dp_int h2
    cases dp_int h3
    refine ⟨_, (pss_cons (ps_set (i := 3) sc_pivots_of.nd rfl (by first | exact Or.inl rfl | exact Or.inr rfl) pe_dnewK)
      (pss_cons (ps_for PassesOwn.never rfl (pi_list (pv 0)) (pg_name (i := 4) sc_pivots_of.nd rfl (by first | exact Or.inl rfl | exact Or.inr rfl)) (pss_one (ps_expr (C8.pe_c (cal_insert G) hr (by decide) (by rfl) (pa_cons (pv 3) (pa_cons (pv 4) (pa_cons (pv 1) (pa_cons (pv 2) pa_nil))))))))
      (pss_one (ps_ret (pv 3))))), ?_⟩
    intro d hd
    dsimp only
    have f0 : Fr [] M H (d :: M) (upd H d (.dK [])) := (Fr.refl hM).new hd
    refine s_for f0.ok (ei_ld (K := K) (src := us) (f := dV) (ed_var rfl (h1.mono f0.vis))) (d :: M) (fun H1 i σ' H' => ∃ x kvs L, σ' = [some v1, some (.int n), some (.int m), some (.ref d), x] ∧ Fr [] M H (d :: M) H' ∧ Ex (hide (d :: M) H1) (hide (d :: M) H') ∧ H' d = some (.dK kvs) ∧ KvOk K (hide (d :: M) H') kvs L ∧ WM.Hw m n (GenL (us.take i)) L)
      (fun H1 i σ' H' e ⟨x, kvs, L, _, p1, p2, _⟩ => ⟨p2, p1.ok⟩) (fun H1 e => ⟨none, [], [], rfl, f0.gex e, Ex.refl _, e d _ upd_same, .nil, (WM.Hw.nil m n).to (fun f ⟨u, hu, _⟩ => by simp at hu) fun f h => h.elim⟩) ?_ ?_
    · rintro H1 i u x σ' H' H2 e hi ⟨x0, kvs, L, rfl, fr, ex1, hdk, hkv, hw⟩ e2 hx
      have hmem := List.mem_of_getElem? hi
      refine ⟨.ref d, rfl, x, rfl, .int n, rfl, .int m, rfl, d :: M, d, x, n, m, kvs, L, u, _, rfl, (fr.gex e2).ok, by simp, e2 d _ hdk, hkv.up (hide_ex e2), hx, hm, hm60, hn, hvec u hmem, hw, fun H3 kvs' L' f3 hd3 hkv3 hw3 => ?_⟩
      refine ⟨_, kvs', L', rfl, (fr.gex e2).trans f3 (fun a ha => .inr (by simp at ha; subst ha; exact hd)), (ex1.trans (hide_ex e2)).trans f3.vis, hd3, hkv3, ?_⟩
      have ht : us.take (i + 1) = us.take i ++ [u] := by rw [List.take_add_one, hi]; rfl
      refine hw3.to (fun f ⟨v, hv, hf⟩ => ?_) (fun f hf => ?_)
      · rw [ht] at hv
        rcases List.mem_append.mp hv with z | z
        · exact .gen (.inl ⟨v, z, hf⟩)
        · exact .gen (.inr (by rw [hf, List.mem_singleton.mp z]))
      · rw [ht]
        rcases hf with ⟨v, hv, hf⟩ | hf
        · exact .gen ⟨v, by simp [hv], hf⟩
        · exact .gen ⟨u, by simp, hf⟩
    · rintro H1 σ' H' e ⟨x0, kvs, L, rfl, fr, ex1, hdk, hkv, hw⟩
      rw [List.take_length] at hw
      dsimp only
      have hl2 : ∀ a ∈ M, a ∈ d :: M := fun a ha => by simp [ha]
      refine sg_ret (fr.back hl2).ok (eg_var (T := tyDK K L) rfl ⟨d, kvs, rfl, by rw [hide_out (hM.new hd)]; exact hdk, hkv.up (hide_less hl2)⟩) fun v H2 e2 h => hq v H2 (fr.out.trans e2) ⟨L, hw, h⟩)
/-- the keys, the greatest first -/
def desc (L : WM.Pv) : List Int := (L.map fun p => (p.1 : Int)).mergeSort fun a b => decide (b ≤ a)
theorem desc_perm (L : WM.Pv) : (desc L).Perm (L.map fun p => (p.1 : Int)) := List.mergeSort_perm _ _
theorem desc_sorted (L : WM.Pv) : (desc L).Pairwise (· ≥ ·) := by
  have := List.pairwise_mergeSort (le := fun a b : Int => decide (b ≤ a)) (fun a b c h1 h2 => by simp at h1 h2 ⊢; omega) (fun a b => by simp; omega) (L.map fun p => (p.1 : Int))
  exact this.imp fun h => by simpa using h
theorem desc_uniq {ys : List Int} {L : WM.Pv} (h1 : ys.Perm (L.map fun p => (p.1 : Int))) (h2 : ys.Pairwise (· ≥ ·)) : ys = desc L :=
  List.Perm.eq_of_pairwise (fun a b _ _ h1 h2 => by omega) h2 (desc_sorted L) (h1.trans (desc_perm L).symm)
end
section
variable {K : PySem.W.Frag} {M : List Addr} {σ : L2.St} {H H' : Hp} {te : TE}
theorem ed_sortedDR {L : WM.Pv} (h : EG M te σ H (tyDK K L)) (hl : L.length ≤ 1000) : ED K M (tCKw rSortedDR (tCons te tNil) (tCons (tC (.bl true)) tNil)) σ H (.list ((desc L).map .int)) := fun hM H1 e Q q =>
  h hM H1 e _ fun v H2 e2 ⟨d, kvs, ev, hd, hkv⟩ => ⟨d, kvs, _, by rw [ev], rfl, .inl (hide_sub _ _ _ _ hd), hkv.keys, by rw [List.length_map]; exact hl, fun ys p h1 h2 hp => q _ _ (e2.trans (Ex.new hp)) (by
    rw [desc_uniq h1 h2]
    have := lst_new (K := K) (hM.ex (e.trans e2)) hp (dpAll_ints (K := K) (H := hide M H2) (desc L))
    exact this)⟩
end
end WL
end
section
set_option Elab.async false
set_option linter.all false
set_option maxRecDepth 100000
set_option maxHeartbeats 4000000
/-! D6: table_of, Span.__init__. -/
namespace WL
open PySem PySem.Spec PyProof.Rows L2 Evl HeadW
section
variable {K : PySem.W.Frag} {M : List Addr} {σ : L2.St} {H H' : Hp} {te : TE} {T : Ty} {C : Addr} {f : Str} {i : Nat}
theorem dp_pair {v : V} {a b : PyData} (h : Dp K H v (.tuple [a, b])) : ∃ p y z, v = .ref p ∧ SqT K H p [y, z] ∧ Dp K H y a ∧ Dp K H z b := by
  obtain ⟨p, xs, rfl, hs, hx⟩ := dp_tup h
  cases hx with
  | cons h1 hx =>
    cases hx with
    | cons h2 hx =>
      cases hx
      exact ⟨p, _, _, rfl, hs, h1, h2⟩
theorem eg_fldH {x dx : Addr} {l : List (Str × V)} {v : V} (hi : σ[i]? = some (some (.ref x))) (hx : H x = some (.ins C dx l)) (hc : Cls K C) (hn : NoAttr K C f) (hl : l.lookup f = some v) (hv : T.p v (hide M H)) : EG M (tFld K (tVar i) f) σ H T := fun hM H1 e Q q =>
  ⟨.ref x, hi, x, C, dx, l, v, rfl, e x _ hx, hc, hn, hl, q v H1 (Ex.refl _) (T.up (hide_ex e) hv)⟩
end
section
variable {w : World} {K : PySem.W.Frag} {mg : Str → Option Value} {base : Heap}
/-- the table of a span -/
abbrev TabFor (m : Int) (n : Nat) (G : WM.F → Prop) (TL : WM.Pv) : Prop := WM.Tab m n TL ∧ ∀ f, WM.In m (WM.Gen TL) f ↔ WM.In m G f
abbrev N_table_of : List Str := ["pivots", "modulus", "rows", "lead", "row"]
theorem sc_table_of : FnScope N_table_of ["pivots", "modulus"] d_table_of.scope := ⟨rfl, rfl, rfl, by decide +kernel, rfl, by decide +kernel, by decide +kernel⟩
theorem bi_table_of (kV doc pm : Value) (an : Option Addr) (cdv ct : Value) (us : List Value) (hl : us.length = 2) : bindArgs (PySem.W.fnOf d_table_of.name d_table_of.qual d_table_of.params d_table_of.body d_table_of.scope .none kV doc pm an cdv ct) ⟨us, []⟩ = pure ((["pivots", "modulus"] : List Str).zip us) := by
  match us, hl with
  | [_, _], _ => rfl

def R_table_of (K : PySem.W.Frag) (Ts : List Ty) (T : Ty) : Prop := ∃ (m : Int) (n : Nat) (G : WM.F → Prop), Ts = [tyEx (WM.Hw m n G) (tyDK K), tI K m] ∧ 2 ≤ m ∧ m ≤ 60 ∧ n ≤ 13 ∧ T = tyEx (TabFor m n G) (fun TL => dat K (dL (TL.map Prod.snd)))
theorem desc_mem {L : WM.Pv} {y : Int} (h : y ∈ desc L) : ∃ k r, (k, r) ∈ L ∧ y = (k : Int) := by
  obtain ⟨⟨k, r⟩, h1, h2⟩ := List.mem_map.mp ((desc_perm L).mem_iff.mp h)
  exact ⟨k, r, h1, h2.symm⟩
theorem desc_nodup {L : WM.Pv} (h : (L.map (·.1)).Nodup) : (desc L).Nodup := by
  rw [(desc_perm L).nodup_iff]
  have : (L.map fun p => (p.1 : Int)) = (L.map (·.1)).map fun k : Nat => (k : Int) := by rw [List.map_map]; rfl
  rw [this]
  exact List.Pairwise.map _ (fun a b hab => by omega) h
theorem desc_gt {L : WM.Pv} (h : (L.map (·.1)).Nodup) {i : Nat} {y a : Int} (hi : (desc L)[i]? = some y) (ha : a ∈ (desc L).take i) : y < a := by
  have hs := desc_sorted L
  have hn := desc_nodup h
  obtain ⟨j, hj, hja⟩ := List.mem_take_iff_getElem.mp ha
  obtain ⟨hi1, hi2⟩ := List.getElem?_eq_some_iff.mp hi
  have hji : j < i := by omega
  have h1 := List.pairwise_iff_getElem.mp hs j i (by omega) hi1 hji
  have h2 := List.pairwise_iff_getElem.mp hn j i (by omega) hi1 hji
  rw [hi2, hja] at h1 h2
  omega
theorem cal_table_of (G : Glb w K mg base) : C8.Cal PP w K mg base 3 "table_of" (SpT (R_table_of K)) [] :=
  cal_mk G 18 (d := d_table_of) rfl rfl G.g_table_of rfl sc_table_of (spT_len fun Ts T ⟨_, _, _, h, _⟩ => by rw [h]; rfl) bi_table_of (fun f cdv A outer s H vs Q E hr hsp => by
    obtain ⟨M, Ts, T, hM, hv, ⟨m, n, GG, rfl, hm, hm60, hn, rfl⟩, hq⟩ := hsp
    obtain ⟨v1, v2, rfl, ⟨L, hw, hL⟩, h2⟩ := allT2 hv
    cases dp_int h2
    have hm0 : 0 < m := by omega
    have hLn := hw.piv.len_le
    refine ⟨_, (pss_cons (ps_set (i := 2) sc_table_of.nd rfl (by first | exact Or.inl rfl | exact Or.inr rfl) (pe_lst pa_nil))
      (pss_cons (ps_for PassesOwn.never rfl (pi_list (pe_callBK (cr_sortedDR rfl) (by rfl) G.f_sorted (by decide +kernel) (pa_cons (pv 0) pa_nil) (pk_cons pe_bl pk_nil))) (pg_name (i := 3) sc_table_of.nd rfl (by first | exact Or.inl rfl | exact Or.inr rfl)) (pss_one (ps_expr (pe_bm PySem.F.plainAttrs_list PySem.F.slot_list_insert PySem.F.type_list_insert mt_insert (pv 2) (pa_cons pe_int (pa_cons (pe_tup (pa_cons (pv 3) (pa_cons (C8.pe_c (cal_reduced_by G) hr (by decide) (by rfl) (pa_cons (pe_dget (hu_of hr) (pv 0) (pv 3) (fun _ _ => rfl)) (pa_cons (pv 2) (pa_cons (pv 1) pa_nil)))) pa_nil))) pa_nil))))))
      (pss_one (ps_ret (pe_lc (own := [("lead", 3), ("row", 4)]) (g := (gTup _ 2 (gCons (gName 3) (gCons (gName 4) gNil)))) (tt := tYes) rfl sc_table_of.nd (pi_list (pv 2)) (blkOk_by (N := N_table_of) (sc := d_table_of.scope) (by decide +kernel)) (fun _ _ _ _ _ => (pg_tup rfl (pgs_cons (pg_name (i := 3) sc_table_of.nd rfl (by first | exact Or.inl rfl | exact Or.inr rfl)) (pgs_cons (pg_name (i := 4) sc_table_of.nd rfl (by first | exact Or.inl rfl | exact Or.inr rfl)) pgs_nil)))) (fun _ _ _ _ _ => pts_nil) (fun _ _ _ _ _ => (pv 4))))))), ?_⟩
    refine s_new0 fun p hp => ?_
    dsimp only
    have hpM : p ∉ M := hM.new hp
    have f0 : Fr [] M H (p :: M) (upd H p (.lst [])) := (Fr.refl hM).new hp
    have hsub : ∀ a ∈ M, a ∈ p :: M := fun a ha => by simp [ha]
    refine s_for f0.ok (ei_ld (K := K) (src := desc L) (f := fun a => .int a) (ed_sortedDR (eg_var (T := tyDK K L) rfl ((tyDK K L).up f0.vis hL)) (by omega))) (p :: M) (fun H1 i σ' H' => ∃ xs D TL x y, σ' = [some v1, some (.int m), some (.ref p), x, y] ∧ Fr [] M H (p :: M) H' ∧ Ex (hide (p :: M) H1) (hide (p :: M) H') ∧ H' p = some (.lst xs) ∧ DpAll K (hide (p :: M) H') xs (TL.map dRow) ∧
        WM.TabOf m n D TL ∧ (D.map fun q => (q.1 : Int)) = ((desc L).take i).reverse ∧ ∀ q ∈ D, q ∈ L)
      (fun H1 i σ' H' e ⟨xs, D, TL, x, y, _, p1, p2, _⟩ => ⟨p2, p1.ok⟩) (fun H1 e => ⟨[], [], [], none, none, rfl, f0.gex e, Ex.refl _, e p _ upd_same, .nil, WM.TabOf.nil m n, by simp, fun q hq => by simp at hq⟩) ?_ ?_
    · rintro H1 i y x σ' H' H2 e hi ⟨xs, D, TL, x0, y0, rfl, fr, ex1, hpx, hxs, ht, hD, hDL⟩ e2 hx
      cases dp_int hx
      obtain ⟨k, r, hkr, rfl⟩ := desc_mem (List.mem_of_getElem? hi)
      have R := hw.piv.ok k r hkr
      have hlk := WM.lookup_of hw.piv.nd hkr
      have f2 := fr.gex e2
      have hb := f2.back hsub
      have exM : Ex (hide M H) (hide M H2) := hb.vis
      obtain ⟨d, kvs, rfl, hdk, hkv⟩ := hL
      have hdk2 := exM d _ hdk
      have hrows : Dp K (hide M H2) (.ref p) (dRows TL) := .lst (sq_of (by rw [hide_out hpM]; exact e2 p _ hpx)) (hxs.mono ((hide_ex e2).trans (hide_less hsub)))
      have hTl : TL.length ≤ n := by
        have h1 : TL.length = D.length := by have := congrArg List.length ht.keys; simpa using this
        have h2 : D.length ≤ (desc L).length := by have := congrArg List.length hD; simp at this; omega
        have h3 : (desc L).length = L.length := by rw [(desc_perm L).length_eq, List.length_map]
        omega
      have hk : ∀ j s, (j, s) ∈ D → k < j := fun j s hj => by
        have h1 : (j : Int) ∈ D.map fun q => (q.1 : Int) := List.mem_map.mpr ⟨(j, s), hj, rfl⟩
        rw [hD, List.mem_reverse] at h1
        have := desc_gt hw.piv.nd hi h1
        omega
      have call := ed_call (K := K) (M := M) (σ := [some (.ref d), some (.int m), some (.ref p), some (.int (k : Int)), y0]) (H := H2) (E := C8.E0) (R := R_reduced_by K)
        (ega_d (ed_dget (i := 3) (j := 0) rfl rfl (hide_sub _ _ _ _ hdk2) (hkv.up exM) hlk) (ega_d (ed_var (i := 2) rfl hrows) (ega_d (ed_varI (k := 1) rfl) ega_nil))) ⟨r, TL, m, n, rfl, hm0, by omega, by omega, by omega, R.toVec, ht.row, rfl⟩
      refine s_insert0 f2.ok (e2 p _ hpx) rfl (ed_tup (by simp) (ea_cons (ed_varI rfl) (ea_one (ed_hide call (e2 p _ hpx))))).eg (by rw [dpAll_len hxs, List.length_map]; omega) fun vv H3 e3 hvv => ?_
      have ht' : (desc L).take (i + 1) = (desc L).take i ++ [(k : Int)] := by rw [List.take_add_one, hi]; rfl
      refine ⟨_, (k, r) :: D, (k, WM.red m TL r) :: TL, _, _, rfl, (f2.gex e3).upd (by simp) (.inr hp), ?_, upd_same, ?_, ht.step hm0 R hk, ?_, fun q hq => ?_⟩
      · rw [hide_upd (by simp)]
        exact (ex1.trans (hide_ex e2)).trans (hide_ex e3)
      · rw [hide_upd (by simp)]
        exact .cons hvv (hxs.mono ((hide_ex e2).trans (hide_ex e3)))
      · rw [List.map_cons, hD, ht', List.reverse_append]
        rfl
      · rcases List.mem_cons.mp hq with z | z
        · rw [z]; exact hkr
        · exact hDL q z
    · rintro H1 σ' H' e ⟨xs, D, TL, x0, y0, rfl, fr, ex1, hpx, hxs, ht, hD, hDL⟩
      rw [List.take_length] at hD
      dsimp only
      have hrows : Dp K (hide M H') (.ref p) (dRows TL) := .lst (sq_of (by rw [hide_out hpM]; exact hpx)) (hxs.mono (hide_less hsub))
      have hTl : TL.length ≤ n := by
        have h1 : TL.length = D.length := by have := congrArg List.length ht.keys; simpa using this
        have h2 : D.length ≤ (desc L).length := by have := congrArg List.length hD; simp at this; omega
        have h3 : (desc L).length = L.length := by rw [(desc_perm L).length_eq, List.length_map]
        omega
      have hdone := ht.done hm0 hw fun ⟨k, r⟩ => ⟨hDL _, fun h => by
        have h1 : (k : Int) ∈ (desc L).reverse := List.mem_reverse.mpr ((desc_perm L).mem_iff.mpr (List.mem_map.mpr ⟨(k, r), h, rfl⟩))
        rw [← hD] at h1
        obtain ⟨⟨j, s⟩, h2, h3⟩ := List.mem_map.mp h1
        have h3 : (j : Int) = k := h3
        have h3 : j = k := by omega
        subst h3
        have := WM.nodup_val hw.piv.nd h (hDL _ h2)
        rw [this]; exact h2⟩
      refine sd_ret (K := K) (d := dL (TL.map Prod.snd)) (fr.back hsub).ok ((ed_lcA (K := K) (ei_ld (K := K) (src := TL) (f := dRow) (ed_var rfl hrows)) (by omega) (fun p => dV p.2) fun M' H2 x a i ex hM' hi hx => ?_).to (by show _ = PyData.list ((TL.map Prod.snd).map dV); rw [List.map_map]; rfl)) fun v H2 e2 h => hq v H2 (fr.out.trans e2) ⟨TL, hdone, h⟩
      obtain ⟨pp, y, z, rfl, hs, hy, hz⟩ := dp_pair hx
      exact turn_pair hs rfl et_yes fun _ => ed_var rfl hz)
/-- a span as an object -/
abbrev fsSpan (K : PySem.W.Frag) (m : Int) (n : Nat) (TL : WM.Pv) : List (Str × Ty) := [("kept_modulus", tI K m), ("kept_width", tI K n), ("kept_table", dat K (dL (TL.map Prod.snd))), ("rows", dat K (dRows TL))]
abbrev cSpan (K : PySem.W.Frag) : Addr := He.ga K "Span"
abbrev tySpan (K : PySem.W.Frag) (m : Int) (n : Nat) (TL : WM.Pv) : Ty := tyO (cSpan K) (fsSpan K m n TL)
def IsSpan (K : PySem.W.Frag) (m : Int) (n : Nat) (G : WM.F → Prop) (fs : List (Str × Ty)) : Prop := ∃ TL, TabFor m n G TL ∧ fs = fsSpan K m n TL
theorem row_lead {m : Int} {n k : Nat} {r : List Int} (R : WM.Row m n k r) : leadD n r = .int (k : Nat) := by
  have : WM.lead n (WM.at_ r) = k := WM.lead_eq R.lt R.zer (by have := R.pos; omega)
  unfold leadD
  rw [this, if_pos R.lt]
abbrev N_Span_init : List Str := ["self", "modulus", "width", "vectors", "vector", "row"]
theorem sc_Span_init : FnScope N_Span_init ["self", "modulus", "width", "vectors"] d_Span_init.scope := ⟨rfl, rfl, rfl, by decide +kernel, rfl, by decide +kernel, by decide +kernel⟩
theorem bi_Span_init (kV doc pm : Value) (an : Option Addr) (cdv ct : Value) (us : List Value) (hl : us.length = 4) : bindArgs (PySem.W.fnOf d_Span_init.name d_Span_init.qual d_Span_init.params d_Span_init.body d_Span_init.scope .none kV doc pm an cdv ct) ⟨us, []⟩ = pure ((["self", "modulus", "width", "vectors"] : List Str).zip us) := by
  match us, hl with
  | [_, _, _, _], _ => rfl

def R_Span_init (K : PySem.W.Frag) (Ts : List Ty) (P : List (Str × Ty) → Prop) : Prop := ∃ (us : List (List Int)) (n : Nat) (m : Int), Ts = [tI K m, tI K n, dat K (dL us)] ∧ 2 ≤ m ∧ m ≤ 60 ∧ 1 ≤ n ∧ n ≤ 12 ∧ us.length ≤ 500 ∧ (∀ u ∈ us, WM.Vec m n u) ∧ P = IsSpan K m n (GenL us)
theorem vec_all {m : Int} {n : Nat} {v : List Int} (h : WM.Vec m n v) : (v.all fun a => decide (0 ≤ a) && decide (a ≤ m - 1)) = true := by
  rw [List.all_eq_true]
  intro a ha
  have := h.rng a ha
  simp
  omega
theorem mak_Span (G : Glb w K mg base) : C8.Mak PP w K mg base 6 "Span" (cSpan K) (SpI (cSpan K) (R_Span_init K)) [] :=
  mak_mk G 19 (d := d_Span_init) rfl rfl G.mk_Span G.g_Span rfl sc_Span_init (spI_len (n := 3) fun Ts P ⟨_, _, _, h, _⟩ => by rw [h]; rfl) bi_Span_init (fun f cdv A outer s H vs Q E hr hsp => by
    obtain ⟨M, x, dx, ws, Ts, P, rfl, hM, hxM, hx, hv, ⟨us, n, m, rfl, hm, hm60, hn1, hn, hl, hvec, rfl⟩, hq⟩ := hsp
    obtain ⟨v1, v2, v3, rfl, h1, h2, h3⟩ := allT3 hv
    cases dp_int h1
    cases dp_int h2
    have hm0 : 0 < m := by omega
    refine ⟨_, (pss_cons (ps_if (pt_not (pt_val (C8.pe_c (cal_is_modulus G) hr (by decide) (by rfl) (pa_cons (pv 1) pa_nil)))) (pss_one ps_never) pss_nil)
      (pss_cons (ps_if (pt_not (pt_val (C8.pe_c (cal_is_width G) hr (by decide) (by rfl) (pa_cons (pv 2) pa_nil)))) (pss_one ps_never) pss_nil)
      (pss_cons (ps_if (PW.pt (pw_or (pt_not (pt_val (pe_callB (id := "isinstance") call_isi (by rfl) G.f_isinstance (by decide +kernel) (pa_cons (pv 3) (pa_cons (pe_bltn (v := .ty "list") (by rfl) G.f_list (by decide +kernel) rfl) pa_nil))))) (pw_or1 (pt_cmpR op_gt (pe_callB (id := "len") call_len (by rfl) G.f_len (by decide +kernel) (pa_cons (pv 3) pa_nil)) (C8.pe_gc (by rfl) G.c_MAX_VECTORS) (nomark _))))) (pss_one ps_never) pss_nil)
      (pss_cons (ps_if (pt_not (pt_val (pe_callB (id := "all") (cr_all rfl) (by rfl) G.f_all (by decide +kernel) (pa_cons (pe_lc (own := [("vector", 4)]) (g := (gName 4)) (tt := tYes) rfl sc_Span_init.nd (pi_list (pv 3)) (blkOk_by (N := N_Span_init) (sc := d_Span_init.scope) (by decide +kernel)) (fun _ _ _ _ _ => (pg_name (i := 4) sc_Span_init.nd rfl (by first | exact Or.inl rfl | exact Or.inr rfl))) (fun _ _ _ _ _ => pts_nil) (fun _ _ _ _ _ => (C8.pe_c (cal_is_vector G) hr (by decide) (by rfl) (pa_cons (pv 4) (pa_cons (pv 1) (pa_cons (pv 2) pa_nil)))))) pa_nil)))) (pss_one ps_never) pss_nil)
      (pss_cons (ps_fld (pv 0) (pv 1) rfl)
      (pss_cons (ps_fld (pv 0) (pv 2) rfl)
      (pss_cons (ps_fld (pv 0) (C8.pe_c (cal_table_of G) hr (by decide) (by rfl) (pa_cons (C8.pe_c (cal_pivots_of G) hr (by decide) (by rfl) (pa_cons (pv 3) (pa_cons (pv 2) (pa_cons (pv 1) pa_nil)))) (pa_cons (pv 1) pa_nil))) rfl)
      (pss_one (ps_fld (pv 0) (pe_lc (own := [("row", 5)]) (g := (gName 5)) (tt := tYes) rfl sc_Span_init.nd (pi_list (pe_fld (pv 0) rfl)) (blkOk_by (N := N_Span_init) (sc := d_Span_init.scope) (by decide +kernel)) (fun _ _ _ _ _ => (pg_name (i := 5) sc_Span_init.nd rfl (by first | exact Or.inl rfl | exact Or.inr rfl))) (fun _ _ _ _ _ => pts_nil) (fun _ _ _ _ _ => (pe_tup (pa_cons (C8.pe_c (cal_lead_within G) hr (by decide) (by rfl) (pa_cons (pv 5) (pa_cons (pv 2) pa_nil))) (pa_cons (pv 5) pa_nil))))) rfl))))))))), ?_⟩
    refine sd_if (b := false) hM ((et_not (et_B (ed_call (K := K) (R := R_is_modulus K) (ega_d (ed_varI rfl) ega_nil) ⟨m, rfl, rfl⟩))).to (by simp; omega)) (fun hb => by cases hb) fun _ H1 e1 => ?_
    dsimp only [tNext]
    refine sd_if (b := false) (hM.ex e1) ((et_not (et_B (ed_call (K := K) (R := R_is_width K) (ega_d (ed_varI rfl) ega_nil) ⟨n, rfl, rfl⟩))).to (by simp; omega)) (fun hb => by cases hb) fun _ H2 e2 => ?_
    dsimp only [tNext]
    have e02 := e1.trans e2
    have h32 := h3.mono (hide_ex (M := M) e02)
    refine sd_if (b := false) (hM.ex e02) ((et_or (et_not (et_B (ed_isi (K := K) (b := true) (n := "list") (ed_var rfl h32) rfl (by decide +kernel)))) fun _ => et_test (ed_cmp (ed_len (ed_var rfl h32)) ed_int)).to ?_) (fun hb => by cases hb) fun _ H3 e3 => ?_
    · simp; omega
    dsimp only [tNext]
    have e03 := e02.trans e3
    have h33 := h3.mono (hide_ex (M := M) e03)
    refine sd_if (b := false) (hM.ex e03) ((et_not (et_B (ed_allB (K := K) (l := us) (f := fun u => u.all fun a => decide (0 ≤ a) && decide (a ≤ m - 1)) (ed_lcL1 (src := us) (g := dV) (ed_var rfl h33) (by omega) _ (fun _ => rfl) fun M' H' y u ex hM' hu hy => ?_)))).to ?_) (fun hb => by cases hb) fun _ H4 e4 => ?_
    · exact ed_call (K := K) (R := R_is_vector K) (ega_d (ed_var rfl hy) (ega_d (ed_varI rfl) (ega_d (ed_varI rfl) ega_nil))) ⟨u, m, n, rfl, (hvec u hu).len, by omega, rfl⟩
    · have : (us.all fun u => u.all fun a => decide (0 ≤ a) && decide (a ≤ m - 1)) = true := by
        rw [List.all_eq_true]
        exact fun u hu => vec_all (hvec u hu)
      rw [this]; rfl
    dsimp only [tNext]
    have e04 := e03.trans e4
    refine s_fld (C := cSpan K) (l := []) (hM.ex e04) rfl (e04 x _ hx) G.k_Span G.n_Span_kept_modulus (by simp) (ed_varI (K := K) rfl).eg fun w1 H5 e5 hw1 => ?_
    cases dp_int hw1
    have f5 := ((Fr.refl hM).gex (e04.trans e5)).upd (B := [x]) (a := x) (o := .ins (cSpan K) dx (putF "kept_modulus" (.int m) [])) hxM (.inl (by simp))
    have x5 : (upd H5 x (.ins (cSpan K) dx (putF "kept_modulus" (.int m) []))) x = some (.ins (cSpan K) dx [("kept_modulus", .int m)]) := upd_same
    generalize upd H5 x (.ins (cSpan K) dx (putF "kept_modulus" (.int m) [])) = H5' at f5 x5
    dsimp only
    refine s_fld (C := cSpan K) f5.ok rfl x5 G.k_Span G.n_Span_kept_width (by simp) (ed_varI (K := K) rfl).eg fun w2 H6 e6 hw2 => ?_
    cases dp_int hw2
    have f6 := (f5.gex e6).upd (a := x) (o := .ins (cSpan K) dx (putF "kept_width" (.int n) [("kept_modulus", .int m)])) hxM (.inl (by simp))
    have x6 : (upd H6 x (.ins (cSpan K) dx (putF "kept_width" (.int n) [("kept_modulus", .int m)]))) x = some (.ins (cSpan K) dx [("kept_modulus", .int m), ("kept_width", .int n)]) := upd_same
    generalize upd H6 x (.ins (cSpan K) dx (putF "kept_width" (.int n) [("kept_modulus", .int m)])) = H6' at f6 x6
    dsimp only
    have h36 := h3.mono f6.vis
    refine s_fld (C := cSpan K) f6.ok rfl x6 G.k_Span G.n_Span_kept_table (by simp) (eg_call (R := R_table_of K) (ega_cons (eg_call (R := R_pivots_of K) (ega_d (ed_var rfl h36) (ega_d (ed_varI rfl) (ega_d (ed_varI rfl) ega_nil))) ⟨us, n, m, rfl, hm, hm60, by omega, by omega, hvec, rfl⟩) (ega_d (ed_varI rfl) ega_nil)) ⟨m, n, GenL us, rfl, hm, hm60, by omega, rfl⟩) fun w3 H7 e7 ⟨TL, hTL, hw3⟩ => ?_
    have f7 := (f6.gex e7).upd (a := x) (o := .ins (cSpan K) dx (putF "kept_table" w3 [("kept_modulus", .int m), ("kept_width", .int n)])) hxM (.inl (by simp))
    have x7 : (upd H7 x (.ins (cSpan K) dx (putF "kept_table" w3 [("kept_modulus", .int m), ("kept_width", .int n)]))) x = some (.ins (cSpan K) dx [("kept_modulus", .int m), ("kept_width", .int n), ("kept_table", w3)]) := upd_same
    have hw3' : Dp K (hide M (upd H7 x (.ins (cSpan K) dx (putF "kept_table" w3 [("kept_modulus", .int m), ("kept_width", .int n)])))) w3 (dL (TL.map Prod.snd)) := by rw [hide_upd hxM]; exact hw3
    generalize upd H7 x (.ins (cSpan K) dx (putF "kept_table" w3 [("kept_modulus", .int m), ("kept_width", .int n)])) = H7' at f7 x7 hw3'
    dsimp only
    have hTn := hTL.1.piv.len_le
    have fld := (eg_fldH (T := dat K (dL (TL.map Prod.snd))) (M := M) (H := H7') (i := 0) (σ := [some (.ref x), some (.int m), some (.int n), some v3, none, none]) (C := cSpan K) rfl x7 G.k_Span G.n_Span_kept_table rfl hw3').ed.to (d2 := .list (TL.map fun p => dV p.2)) (by show PyData.list ((TL.map Prod.snd).map dV) = _; rw [List.map_map]; rfl)
    refine s_fld (C := cSpan K) f7.ok rfl x7 G.k_Span G.n_Span_rows (by simp) (ed_lcL1 (K := K) (src := TL) (g := fun p => dV p.2) fld (by omega) dRow (fun _ => rfl) fun M' H' y p ex hM' hp hy => ?_).eg fun w4 H8 e8 hw4 => ?_
    · have R := hTL.1.piv.ok p.1 p.2 hp
      have := ed_tup (K := K) (by simp) (ea_cons (ed_call (M := M') (σ := [some (.ref x), some (.int m), some (.int n), some v3, none, some y]) (H := H') (E := C8.E0) (R := R_lead_within K) (ega_d (ed_var (i := 5) rfl hy) (ega_d (ed_varI (k := 2) rfl) ega_nil)) ⟨p.2, n, rfl, by rw [R.len]; exact Nat.le_refl _, by omega, rfl⟩) (ea_one (ed_var (i := 5) rfl hy)))
      rw [row_lead R] at this
      exact this
    · have f8 := (f7.gex e8).upd (a := x) (o := .ins (cSpan K) dx (putF "rows" w4 [("kept_modulus", .int m), ("kept_width", .int n), ("kept_table", w3)])) hxM (.inl (by simp))
      refine hq _ (fsSpan K m n TL) [.int m, .int n, w3, w4] f8 upd_same ?_ ⟨TL, hTL, rfl⟩
      rw [hide_upd hxM]
      exact .cons (.int _) (.cons (.int _) (.cons (hw3'.mono (hide_ex e8)) (.cons hw4 .nil))))
end
end WL
end
section
set_option Elab.async false
set_option linter.all false
set_option maxRecDepth 100000
set_option maxHeartbeats 4000000
/-! LayH: tuple * int, *=. -/
namespace WL
open PySem PySem.Spec PyProof.Rows L2 Evl HeadW
theorem tuple_mul1 (l : Addr) (items : Array Value) (n : Nat) (dd : Option Addr) (sl : Array (Option Value)) (u : Tok) :
    Meets (Builtin.«tuple.__mul__» ⟨[.ref l, .int 1 u], []⟩) (fun _ R s => s.heap.get? l = some { cls := .type "tuple", dict := dd, data := .seq items n, slots := sl } ∧ R (.ok (.ret (.ref l))) s) :=
  .of_wp fun prog w A R s h => by
    obtain ⟨hp, g, d, tk, os⟩ := s
    obtain ⟨hl, h⟩ := h
    have f1 := AutoSeq1.idx_int
    have ht : ({ heap := hp, gens := g, drawn := d, toks := tk, os := os } : Shared).TypeIs (.ref l) "tuple" := ⟨_, hl, rfl⟩
    wp_walk using wpAny_loadPart' hl
    repeat (first
      | (refine wpAny_ite_false (decide_eq_false (by decide)) ?_; wp_walk using wpAny_loadPart' hl)
      | (refine wpAny_ite_true (by simp) ?_; wp_walk using wpAny_loadPart' hl))
    all_goals exact ⟨_, rfl, h⟩
/-- t * k, k positive -/
def rRepTA (K : PySem.W.Frag) : R2 := fun x y H Q => ∃ l k xs, x = .ref l ∧ y = .int k ∧ SqT K H l xs ∧ xs ≠ [] ∧ 1 ≤ k ∧ k ≤ 1000 ∧ xs.length ≤ 1000 ∧ (k = 1 → Q (.ref l) H) ∧ ∀ p, H p = none → Q (.ref p) (upd H p (.tup (List.replicate k.toNat xs).flatten))
theorem op_repTA {X : Cx} : OpR X (binaryOp .Mult) (rRepTA X.K) := by
  intro pins s τ H x y v u Q I rx ry ⟨l, k, xs, ex, ey, hT, hne, h1, h2, hz, q1, q2⟩
  by_cases hk : k = 1
  · subst ex ey hk
    cases rx
    obtain ⟨t, rfl⟩ := ry
    obtain ⟨its, rv, ⟨⟨c0, d0, dt, s0⟩, o0, g0, n0, g1⟩, hs⟩ := I.tuple hT
    simp only at g0 g1
    subst g0 g1
    refine wpAny_binaryOp_repeat_ref (T := "tuple") (U := "int") (by decide) ⟨_, o0, rfl⟩ (fun s' => typeIs_int s' 1 t) noFill_tuple_mul F.fills_int_mul F.slot_int_rmul repeat_tuple F.slot_int_index.lookup ?_
    refine call_meets F.slot_int_rmul (typeIs_int s 1 t) F.entry_int_rmul (F.args_int_rmul_2 _ _) (int_rmul_tuple 1 t l its.toArray n0 d0 s0) ⟨o0, rfl, ⟨_, o0, rfl⟩, ?_⟩
    exact call_meets F.slot_tuple_mul ⟨_, o0, rfl⟩ F.entry_tuple_mul (F.args_tuple_mul_2 _ _) (tuple_mul1 l its.toArray n0 d0 s0 t) ⟨o0, .ref l, H, I, rfl, q1 rfl⟩
  · exact op_repT pins s τ H x y v u Q I rx ry ⟨l, k, xs, ex, ey, hT, hne, by omega, h2, hz, q2⟩
section
variable {K : PySem.W.Frag} {M : List Addr} {σ : L2.St} {H H' : Hp} {te ta tb : TE} {T : Ty} {D : Ends} {i : Nat}
theorem dpAll_rep {vs : List V} {ds : List PyData} (h : DpAll K H vs ds) : ∀ k : Nat, DpAll K H (List.replicate k vs).flatten (List.replicate k ds).flatten
  | 0 => .nil
  | k + 1 => by
    rw [List.replicate_succ, List.replicate_succ, List.flatten_cons, List.flatten_cons]
    exact dpAll_app h (dpAll_rep h k)
theorem ed_repTA {ds : List PyData} {k : Nat} (hd : ds ≠ []) (hl : ds.length ≤ 1000) (h1 : 1 ≤ k) (h2 : k ≤ 1000) (ha : ED K M ta σ H (.tuple ds)) (hb : ED K M tb σ H (.int (k : Int))) : ED K M (tOp (rRepTA K) ta tb) σ H (.tuple (List.replicate k ds).flatten) :=
  ed_op ha hb fun hM x y H1 e hx hy Q q => by
    obtain ⟨a, xs, rfl, hs, hx⟩ := dp_tup hx
    have hl2 := dpAll_len hx
    refine ⟨a, k, xs, rfl, dp_int hy, ex_t (hide_sub _ _) hs, fun z => ?_, by omega, by omega, by omega, fun hk => ?_, fun p hp => ?_⟩
    · subst z; cases hx; exact hd rfl
    · have : k = 1 := by omega
      subst this
      refine q _ H1 (Ex.refl _) ?_
      simpa using Dp.tup hs hx
    · rw [Int.toNat_natCast]
      exact q _ _ (Ex.new hp) (tup_new (hM.ex e) hp (dpAll_rep hx k))
abbrev zeros (n : Nat) : List Int := List.replicate n 0
theorem ed_zeros {k : Nat} (h1 : 1 ≤ k) (h2 : k ≤ 1000) (hb : ED K M tb σ H (.int (k : Int))) : ED K M (tOp (rRepTA K) (tTup (tCons (tC (.int 0)) tNil)) tb) σ H (dV (zeros k)) :=
  (ed_repTA (ds := [.int 0]) (by simp) (by simp) h1 h2 (ed_tup (by simp) (ea_one ed_int)) hb).to (by
    have : ∀ k : Nat, (List.replicate k [PyData.int 0]).flatten = (List.replicate k (0 : Int)).map .int := fun k => by
      induction k with
      | zero => rfl
      | succ k ih => rw [List.replicate_succ, List.flatten_cons, ih, List.replicate_succ]; rfl
    rw [this])
theorem ip_mul {X : Cx} : PIp X .Mult (rI CMul fun i j => .int (i * j)) := iop_mul
theorem sd_augM {a c : Int} (hM : MOk M H) (hx : σ[i]? = some (some (.int a))) (hc : CMul a c) (h : ED K M te σ H (.int c)) (k : ∀ H1, Ex H H1 → D.nx (σ.set i (some (.int (a * c)))) H1) : tAug i te (rI CMul fun i j => .int (i * j)) D σ H :=
  ⟨.int a, hx, h hM H (Ex.refl H) _ fun v H1 e h1 => ⟨a, c, rfl, dp_int h1, hc, k H1 e⟩⟩
end
/-- a tuple of ints that stands in the heap itself -/
def tyVP (ns : List Int) : Ty := ⟨fun v H => ∃ a, v = .ref a ∧ H a = some (.tup (ns.map V.int)), fun e ⟨a, h1, h2⟩ => ⟨a, h1, e a _ h2⟩⟩
theorem none_of {H H' : Hp} {a : Addr} (e : Ex H H') (h : H' a = none) : H a = none := by
  cases q : H a with
  | none => rfl
  | some o => rw [e a o q] at h; cases h
/-- a new object -/
def NewV (v : V) (H : Hp) : Prop := ∃ a, v = .ref a ∧ H a = none
theorem NewV.back {v : V} {H H' : Hp} (h : NewV v H') (e : Ex H H') : NewV v H := by
  obtain ⟨a, h1, h2⟩ := h
  exact ⟨a, h1, none_of e h2⟩
def tyNew (H0 : Hp) (T : Ty) : Ty := ⟨fun v H => T.p v H ∧ NewV v H0, fun e h => ⟨T.up e h.1, h.2⟩⟩
/-- a promise of a new object -/
def SpF (R : List Ty → Ty → Prop) : Sp := fun vs H Q _ => ∃ M Ts T, MOk M H ∧ AllT (hide M H) vs Ts ∧ R Ts T ∧ ∀ v H', Ex H H' → T.p v (hide M H') → NewV v H → Q v H'
theorem spF_len {R : List Ty → Ty → Prop} {n : Nat} (h : ∀ Ts T, R Ts T → Ts.length = n) : ∀ vs H Q E, SpF R vs H Q E → vs.length = n := fun vs H Q E ⟨M, Ts, T, _, h1, h2, _⟩ => by rw [h1.len]; exact h Ts T h2
section
variable {K : PySem.W.Frag} {M : List Addr} {σ : L2.St} {H H' : Hp} {te ta tb tv : TE} {T : Ty} {Ts : List Ty} {D : Ends} {g : TG} {i j : Nat} {ns : List Int}
theorem eg_callF {t : TA} {R : List Ty → Ty → Prop} {E : XK} (h : EGA M t σ H Ts) (r : R Ts T) : EG M (tCall (SpF R) [] E t) σ H (tyNew H T) := fun hM H1 e Q q =>
  h hM H1 e _ fun vs H2 e2 h2 => ⟨M, Ts, T, hM.ex (e.trans e2), by rw [List.append_nil]; exact h2, r, fun v H3 e3 h3 hn => q v H3 (e2.trans e3) ⟨h3, hn.back (e.trans e2)⟩⟩
theorem tyVP_d {v : V} (h : (tyVP ns).p v H) : Dp K H v (dV ns) := by
  obtain ⟨a, rfl, h⟩ := h
  exact vec_dp (st_of h)
theorem eg_tupleP (h : ED K M te σ H (.list (ns.map .int))) : EG M (tCB (fun xs H Q => ∃ p ys, xs = [.ref p] ∧ ((SqL K H p ys ∧ ∀ l, H l = none → Q (.ref l) (upd H l (.tup ys))) ∨ (SqT K H p ys ∧ Q (.ref p) H))) (tCons te tNil)) σ H (tyVP ns) := fun hM H1 e Q q =>
  h hM H1 e _ fun v H2 e2 hv => by
    obtain ⟨a, xs, rfl, hs, hx⟩ := dp_lst hv
    have ex := dpAll_ints_eq hx
    subst ex
    exact ⟨a, _, rfl, .inl ⟨ex_l (hide_sub _ _) hs, fun l hl => q _ _ (e2.trans (Ex.new hl)) ⟨l, rfl, by rw [hide_out ((hM.ex (e.trans e2)).new hl)]; exact upd_same⟩⟩⟩
end
theorem eg_callX {M : List Addr} {σ : L2.St} {H : Hp} {ta : TA} {Ts : List Ty} {T : Ty} {R : List Ty → Ty → Prop} {E : XK} (h : EGA M ta σ H Ts) (r : ∀ vs H', AllT H' vs Ts → ∃ Ts' T', AllT H' vs Ts' ∧ R Ts' T' ∧ ∀ v H'', T'.p v H'' → T.p v H'') : EG M (tCall (SpT R) [] E ta) σ H T := fun hM H1 e Q q =>
  h hM H1 e _ fun vs H2 e2 h2 => by
    obtain ⟨Ts', T', a, b, c⟩ := r vs _ h2
    exact ⟨M, Ts', T', hM.ex (e.trans e2), by rw [List.append_nil]; exact a, b, fun v H3 e3 h3 => q v H3 (e2.trans e3) (c v _ h3)⟩
/-! the rules inside a comprehension: the written part's name stands in them -/
section
variable {X : Cx} {K : PySem.W.Frag} {tg e : Expr} {te : TE} {f : Str} {pos : Pos}
theorem ix_listK (h : X.K = K) : IxR X (rIxL K) := h ▸ ix_list
theorem ix_tupK (h : X.K = K) : IxR X (rIxT K) := h ▸ ix_tup
theorem call_tuple_ofK (h : X.K = K) : CallR X (.type "tuple") (fun xs H Q => ∃ p ys, xs = [.ref p] ∧ ((SqL K H p ys ∧ ∀ l, H l = none → Q (.ref l) (upd H l (.tup ys))) ∨ (SqT K H p ys ∧ Q (.ref p) H))) := h ▸ call_tuple_of
theorem call_lenK (h : X.K = K) : CallR X (.builtin "len") (fun xs H Q => ∃ x n, xs = [x] ∧ LenV K x H n ∧ Q (.int n) H) := h ▸ call_len
theorem pi_listK (h : X.K = K) (he : PE X e te) : PI X tg e (iList K te) := h ▸ pi_list he
theorem pi_tupK (h : X.K = K) (he : PE X e te) : PI X tg e (iTup K te) := h ▸ pi_tup he
theorem pe_fldK (h : X.K = K) (he : PE X e te) (hb : attributeBase e f X.env (eval e X.env) = eval e X.env) : PE X (.Attribute e f pos) (tFld K te f) := h ▸ pe_fld he hb
theorem sl_tupAK (h : X.K = K) : SlR X (rSlA K) := h ▸ sl_tupA
theorem op_neDK (h : X.K = K) (hu : X.A.units + 64 < cLine) : OpR X (compareOp .NotEq) (rNeD K) := h ▸ op_neD hu
theorem op_eqDK (h : X.K = K) (hu : X.A.units + 64 < cLine) : OpR X (compareOp .Eq) (rEqD K) := h ▸ op_eqD hu
theorem call_isiK (h : X.K = K) : CallR X (.builtin "isinstance") (rIsi K) := h ▸ call_isi
end
end WL
end
section
set_option Elab.async false
set_option linter.all false
set_option maxRecDepth 100000
set_option maxHeartbeats 4000000
/-! D7: Span's methods, unit_vectors. -/
namespace WL
open PySem PySem.Spec PyProof.Rows L2 Evl HeadW
section
variable {w : World} {K : PySem.W.Frag} {mg : Str → Option Value} {base : Heap}
abbrev N_Span_modulus : List Str := ["self"]
theorem sc_Span_modulus : FnScope N_Span_modulus ["self"] d_Span_modulus.scope := ⟨rfl, rfl, rfl, by decide +kernel, rfl, by decide +kernel, by decide +kernel⟩
theorem bi_Span_modulus (kV doc pm : Value) (an : Option Addr) (cdv ct : Value) (us : List Value) (hl : us.length = 1) : bindArgs (PySem.W.fnOf d_Span_modulus.name d_Span_modulus.qual d_Span_modulus.params d_Span_modulus.body d_Span_modulus.scope .none kV doc pm an cdv ct) ⟨us, []⟩ = pure ((["self"] : List Str).zip us) := by
  match us, hl with
  | [_], _ => rfl

def R_Span_modulus (K : PySem.W.Frag) (Ts : List Ty) (T : Ty) : Prop := ∃ (m : Int) (n : Nat) (TL : WM.Pv), Ts = [tySpan K m n TL] ∧ T = tI K m
theorem met_Span_modulus (G : Glb w K mg base) : C8.Met PP w K mg base 1 (cSpan K) "modulus" (SpT (R_Span_modulus K)) [] :=
  met_mk G 20 (d := d_Span_modulus) rfl rfl G.k_Span G.m_Span_modulus rfl sc_Span_modulus (spT_len fun Ts T ⟨_, _, _, h, _⟩ => by rw [h]; rfl) bi_Span_modulus (fun f cdv A outer s H vs Q E hr hsp => by
    obtain ⟨M, Ts, T, hM, hv, ⟨m, n, TL, rfl, rfl⟩, hq⟩ := hsp
    obtain ⟨v1, rfl, h1⟩ := allT1 hv
    refine ⟨_, (pss_one (ps_ret (pe_fld (pv 0) rfl))), ?_⟩
    exact sg_ret hM (eg_fld (K := K) G.k_Span G.n_Span_kept_modulus rfl (eg_var rfl h1)) fun v H1 e h => hq v H1 e h)
abbrev N_Span_width : List Str := ["self"]
theorem sc_Span_width : FnScope N_Span_width ["self"] d_Span_width.scope := ⟨rfl, rfl, rfl, by decide +kernel, rfl, by decide +kernel, by decide +kernel⟩
theorem bi_Span_width (kV doc pm : Value) (an : Option Addr) (cdv ct : Value) (us : List Value) (hl : us.length = 1) : bindArgs (PySem.W.fnOf d_Span_width.name d_Span_width.qual d_Span_width.params d_Span_width.body d_Span_width.scope .none kV doc pm an cdv ct) ⟨us, []⟩ = pure ((["self"] : List Str).zip us) := by
  match us, hl with
  | [_], _ => rfl

def R_Span_width (K : PySem.W.Frag) (Ts : List Ty) (T : Ty) : Prop := ∃ (m : Int) (n : Nat) (TL : WM.Pv), Ts = [tySpan K m n TL] ∧ T = tI K n
theorem met_Span_width (G : Glb w K mg base) : C8.Met PP w K mg base 1 (cSpan K) "width" (SpT (R_Span_width K)) [] :=
  met_mk G 21 (d := d_Span_width) rfl rfl G.k_Span G.m_Span_width rfl sc_Span_width (spT_len fun Ts T ⟨_, _, _, h, _⟩ => by rw [h]; rfl) bi_Span_width (fun f cdv A outer s H vs Q E hr hsp => by
    obtain ⟨M, Ts, T, hM, hv, ⟨m, n, TL, rfl, rfl⟩, hq⟩ := hsp
    obtain ⟨v1, rfl, h1⟩ := allT1 hv
    refine ⟨_, (pss_one (ps_ret (pe_fld (pv 0) rfl))), ?_⟩
    exact sg_ret hM (eg_fld (K := K) G.k_Span G.n_Span_kept_width rfl (eg_var rfl h1)) fun v H1 e h => hq v H1 e h)
abbrev N_Span_table : List Str := ["self"]
theorem sc_Span_table : FnScope N_Span_table ["self"] d_Span_table.scope := ⟨rfl, rfl, rfl, by decide +kernel, rfl, by decide +kernel, by decide +kernel⟩
theorem bi_Span_table (kV doc pm : Value) (an : Option Addr) (cdv ct : Value) (us : List Value) (hl : us.length = 1) : bindArgs (PySem.W.fnOf d_Span_table.name d_Span_table.qual d_Span_table.params d_Span_table.body d_Span_table.scope .none kV doc pm an cdv ct) ⟨us, []⟩ = pure ((["self"] : List Str).zip us) := by
  match us, hl with
  | [_], _ => rfl

def R_Span_table (K : PySem.W.Frag) (Ts : List Ty) (T : Ty) : Prop := ∃ (m : Int) (n : Nat) (TL : WM.Pv), Ts = [tySpan K m n TL] ∧ T = dat K (dL (TL.map Prod.snd))
theorem met_Span_table (G : Glb w K mg base) : C8.Met PP w K mg base 1 (cSpan K) "table" (SpT (R_Span_table K)) [] :=
  met_mk G 22 (d := d_Span_table) rfl rfl G.k_Span G.m_Span_table rfl sc_Span_table (spT_len fun Ts T ⟨_, _, _, h, _⟩ => by rw [h]; rfl) bi_Span_table (fun f cdv A outer s H vs Q E hr hsp => by
    obtain ⟨M, Ts, T, hM, hv, ⟨m, n, TL, rfl, rfl⟩, hq⟩ := hsp
    obtain ⟨v1, rfl, h1⟩ := allT1 hv
    refine ⟨_, (pss_one (ps_ret (pe_callTy (T := "list") call_list_of (by rfl) G.f_list (by decide +kernel) (pa_cons (pe_fld (pv 0) rfl) pa_nil)))), ?_⟩
    exact sd_ret hM (ed_listOf (eg_fld (K := K) (T := dat K (dL (TL.map Prod.snd))) G.k_Span G.n_Span_kept_table rfl (eg_var rfl h1)).ed) fun v H1 e h => hq v H1 e h)
abbrev N_Span_size : List Str := ["self", "found", "lead", "row"]
theorem sc_Span_size : FnScope N_Span_size ["self"] d_Span_size.scope := ⟨rfl, rfl, rfl, by decide +kernel, rfl, by decide +kernel, by decide +kernel⟩
theorem bi_Span_size (kV doc pm : Value) (an : Option Addr) (cdv ct : Value) (us : List Value) (hl : us.length = 1) : bindArgs (PySem.W.fnOf d_Span_size.name d_Span_size.qual d_Span_size.params d_Span_size.body d_Span_size.scope .none kV doc pm an cdv ct) ⟨us, []⟩ = pure ((["self"] : List Str).zip us) := by
  match us, hl with
  | [_], _ => rfl

def R_Span_size (K : PySem.W.Frag) (Ts : List Ty) (T : Ty) : Prop := ∃ (m : Int) (n : Nat) (TL : WM.Pv), Ts = [tySpan K m n TL] ∧ 2 ≤ m ∧ m ≤ 60 ∧ n ≤ 12 ∧ WM.Tab m n TL ∧ T = tI K (WM.sz m TL)
theorem sz_snoc (m : Int) (L : WM.Pv) (p : Nat × List Int) : WM.sz m (L ++ [p]) = WM.sz m L * (m / WM.at_ p.2 p.1) := by
  unfold WM.sz
  rw [List.foldl_append]
  rfl
theorem met_Span_size (G : Glb w K mg base) : C8.Met PP w K mg base 1 (cSpan K) "size" (SpT (R_Span_size K)) [] :=
  met_mk G 23 (d := d_Span_size) rfl rfl G.k_Span G.m_Span_size rfl sc_Span_size (spT_len fun Ts T ⟨_, _, _, h, _⟩ => by rw [h]; rfl) bi_Span_size (fun f cdv A outer s H vs Q E hr hsp => by
    obtain ⟨M, Ts, T, hM, hv, ⟨m, n, TL, rfl, hm, hm60, hn, ht, rfl⟩, hq⟩ := hsp
    obtain ⟨v1, rfl, h1⟩ := allT1 hv
    have hm0 : 0 < m := by omega
    refine ⟨_, (pss_cons (ps_set (i := 1) sc_Span_size.nd rfl (by first | exact Or.inl rfl | exact Or.inr rfl) pe_int)
      (pss_cons (ps_for PassesOwn.never rfl (pi_list (pe_fld (pv 0) rfl)) (pg_tup rfl (pgs_cons (pg_name (i := 2) sc_Span_size.nd rfl (by first | exact Or.inl rfl | exact Or.inr rfl)) (pgs_cons (pg_name (i := 3) sc_Span_size.nd rfl (by first | exact Or.inl rfl | exact Or.inr rfl)) pgs_nil))) (pss_one (ps_aug (i := 1) sc_Span_size.nd rfl (by first | exact Or.inl rfl | exact Or.inr rfl) (pe_op op_fdiv (pe_fld (pv 0) rfl) (pe_ix ix_tup (pv 3) (pv 2) (fun _ _ => rfl))) ip_mul)))
      (pss_one (ps_ret (pv 1))))), ?_⟩
    refine sd_set hM (ed_int (K := K)) fun v2 H1 e1 h2 => ?_
    cases dp_int h2
    dsimp only
    refine s_forP (hM.ex e1) (ei_ld (K := K) (src := TL) (f := dRow) (eg_fld (K := K) (T := dat K (dRows TL)) G.k_Span G.n_Span_rows rfl (eg_var rfl ((tySpan K m n TL).up (hide_ex e1) h1))).ed) (fun i σ' H' => ∃ x y, σ' = [some v1, some (.int (WM.sz m (TL.take i))), x, y]) (fun H2 e => ⟨none, none, rfl⟩) ?_ ?_
    · rintro H2 i ⟨k, r⟩ x σ' H' H3 e2 e3 hi ⟨x0, y0, rfl⟩ e4 hx
      have e := ((e1.trans e2).trans e3).trans e4
      have R := ht.piv.ok k r (List.mem_of_getElem? hi)
      have hle : WM.at_ r k ≤ m := Int.le_of_dvd hm0 R.dvd
      refine g_tup2 hx fun xk xr hk hr => ?_
      cases dp_int hk
      have hdiv : 0 ≤ m / WM.at_ r k ∧ m / WM.at_ r k ≤ m := ⟨Int.ediv_nonneg (by omega) (by have := R.pos; omega), Int.ediv_le_self _ (by omega)⟩
      refine sd_augM (K := K) (hM.ex e) rfl (cmulR (by omega)) (ed_fdiv ⟨R.pos, by omega⟩ (eg_fld (K := K) (T := tI K m) G.k_Span G.n_Span_kept_modulus rfl (eg_var rfl ((tySpan K m n TL).up (hide_ex e) h1))).ed (ed_at (by rw [R.len]; exact R.lt) (ed_var rfl hr) (ed_varI rfl))) fun H5 e5 => ⟨(e3.trans e4).trans e5, some (.int (k : Int)), some xr, ?_⟩
      have : TL.take (i + 1) = TL.take i ++ [(k, r)] := by rw [List.take_add_one, hi]; rfl
      rw [this, sz_snoc]
      rfl
    · rintro σ' H' e ⟨x0, y0, rfl⟩
      dsimp only
      refine sd_ret (K := K) (hM.ex (e1.trans e)) (ed_varI rfl) fun v H2 e2 h => hq v H2 ((e1.trans e).trans e2) ?_
      rw [List.take_length] at h
      exact h)
abbrev N_Span_least : List Str := ["self", "vector"]
theorem sc_Span_least : FnScope N_Span_least ["self", "vector"] d_Span_least.scope := ⟨rfl, rfl, rfl, by decide +kernel, rfl, by decide +kernel, by decide +kernel⟩
theorem bi_Span_least (kV doc pm : Value) (an : Option Addr) (cdv ct : Value) (us : List Value) (hl : us.length = 2) : bindArgs (PySem.W.fnOf d_Span_least.name d_Span_least.qual d_Span_least.params d_Span_least.body d_Span_least.scope .none kV doc pm an cdv ct) ⟨us, []⟩ = pure ((["self", "vector"] : List Str).zip us) := by
  match us, hl with
  | [_, _], _ => rfl

def R_Span_least (K : PySem.W.Frag) (Ts : List Ty) (T : Ty) : Prop := ∃ (m : Int) (n : Nat) (TL : WM.Pv) (v : List Int), Ts = [tySpan K m n TL, tV K v] ∧ 2 ≤ m ∧ m ≤ 60 ∧ n ≤ 12 ∧ WM.Tab m n TL ∧ WM.Vec m n v ∧ T = tV K (WM.red m TL v)
theorem met_Span_least (G : Glb w K mg base) : C8.Met PP w K mg base 3 (cSpan K) "least" (SpT (R_Span_least K)) [] :=
  met_mk G 24 (d := d_Span_least) rfl rfl G.k_Span G.m_Span_least rfl sc_Span_least (spT_len fun Ts T ⟨_, _, _, _, h, _⟩ => by rw [h]; rfl) bi_Span_least (fun f cdv A outer s H vs Q E hr hsp => by
    obtain ⟨M, Ts, T, hM, hv, ⟨m, n, TL, v, rfl, hm, hm60, hn, ht, hvec, rfl⟩, hq⟩ := hsp
    obtain ⟨v1, v2, rfl, h1, h2⟩ := allT2 hv
    refine ⟨_, (pss_one (ps_ret (C8.pe_c (cal_reduced_by G) hr (by decide) (by rfl) (pa_cons (pv 1) (pa_cons (pe_fld (pv 0) rfl) (pa_cons (pe_fld (pv 0) rfl) pa_nil)))))), ?_⟩
    have := ht.piv.len_le
    exact sg_ret hM (eg_call (R := R_reduced_by K) (ega_d (ed_var rfl h2) (ega_cons (eg_fld (K := K) (T := dat K (dRows TL)) G.k_Span G.n_Span_rows rfl (eg_var rfl h1)) (ega_cons (eg_fld (K := K) (T := tI K m) G.k_Span G.n_Span_kept_modulus rfl (eg_var rfl h1)) ega_nil))) ⟨v, TL, m, n, rfl, by omega, by omega, by omega, by omega, hvec, ht.piv.ok, rfl⟩) fun v H1 e h => hq v H1 e h)
abbrev N_Span_contains : List Str := ["self", "vector"]
theorem sc_Span_contains : FnScope N_Span_contains ["self", "vector"] d_Span_contains.scope := ⟨rfl, rfl, rfl, by decide +kernel, rfl, by decide +kernel, by decide +kernel⟩
theorem bi_Span_contains (kV doc pm : Value) (an : Option Addr) (cdv ct : Value) (us : List Value) (hl : us.length = 2) : bindArgs (PySem.W.fnOf d_Span_contains.name d_Span_contains.qual d_Span_contains.params d_Span_contains.body d_Span_contains.scope .none kV doc pm an cdv ct) ⟨us, []⟩ = pure ((["self", "vector"] : List Str).zip us) := by
  match us, hl with
  | [_, _], _ => rfl

def R_Span_contains (K : PySem.W.Frag) (Ts : List Ty) (T : Ty) : Prop := ∃ (m : Int) (n : Nat) (TL : WM.Pv) (v : List Int), Ts = [tySpan K m n TL, tV K v] ∧ 2 ≤ m ∧ m ≤ 60 ∧ 1 ≤ n ∧ n ≤ 12 ∧ WM.Tab m n TL ∧ WM.Vec m n v ∧ T = tB K (decide (WM.red m TL v = zeros n))
theorem eqvAll_ints : ∀ u v : List Int, PyData.eqvAll (u.map .int) (v.map .int) = decide (u = v)
  | [], [] => by simp [PyData.eqvAll]
  | [], _ :: _ => by simp [PyData.eqvAll]
  | _ :: _, [] => by simp [PyData.eqvAll]
  | a :: u, b :: v => by
    have := eqvAll_ints u v
    simp [PyData.eqvAll, PyData.eqv, this, Bool.decide_and, Bool.beq_eq_decide_eq]
theorem eqv_dV (u v : List Int) : PyData.eqv (dV u) (dV v) = decide (u = v) := by
  simp [PyData.eqv, eqvAll_ints]
theorem met_Span_contains (G : Glb w K mg base) : C8.Met PP w K mg base 4 (cSpan K) "contains" (SpT (R_Span_contains K)) [] :=
  met_mk G 25 (d := d_Span_contains) rfl rfl G.k_Span G.m_Span_contains rfl sc_Span_contains (spT_len fun Ts T ⟨_, _, _, _, h, _⟩ => by rw [h]; rfl) bi_Span_contains (fun f cdv A outer s H vs Q E hr hsp => by
    obtain ⟨M, Ts, T, hM, hv, ⟨m, n, TL, v, rfl, hm, hm60, hn1, hn, ht, hvec, rfl⟩, hq⟩ := hsp
    obtain ⟨v1, v2, rfl, h1, h2⟩ := allT2 hv
    refine ⟨_, (pss_one (ps_ret (pe_cmpR (op_eqD hr.units) (C8.pe_mt (met_Span_least G) hr (by decide) (pv 0) (pa_cons (pv 1) pa_nil)) (pe_op op_repTA (pe_tup (pa_cons pe_int pa_nil)) (pe_fld (pv 0) rfl)) (nomark _)))), ?_⟩
    refine sd_ret (K := K) hM (ed_eqD (shaped_dV _) (shaped_dV _) (eg_meth (R := R_Span_least K) (eg_var rfl h1) rfl (ega_d (ed_var rfl h2) ega_nil) ⟨m, n, TL, v, rfl, hm, hm60, hn, ht, hvec, rfl⟩).ed (ed_zeros hn1 (by omega) (eg_fld (K := K) (T := tI K n) G.k_Span G.n_Span_kept_width rfl (eg_var rfl h1)).ed)) fun v H1 e h => hq v H1 e ?_
    rw [eqv_dV] at h
    exact h)
abbrev N_unit_vectors : List Str := ["width", "at", "index"]
theorem sc_unit_vectors : FnScope N_unit_vectors ["width"] d_unit_vectors.scope := ⟨rfl, rfl, rfl, by decide +kernel, rfl, by decide +kernel, by decide +kernel⟩
theorem bi_unit_vectors (kV doc pm : Value) (an : Option Addr) (cdv ct : Value) (us : List Value) (hl : us.length = 1) : bindArgs (PySem.W.fnOf d_unit_vectors.name d_unit_vectors.qual d_unit_vectors.params d_unit_vectors.body d_unit_vectors.scope .none kV doc pm an cdv ct) ⟨us, []⟩ = pure ((["width"] : List Str).zip us) := by
  match us, hl with
  | [_], _ => rfl

def R_unit_vectors (K : PySem.W.Frag) (Ts : List Ty) (T : Ty) : Prop := ∃ n : Nat, Ts = [tI K n] ∧ n ≤ 1000 ∧ T = dat K (dL (WM.unitM n))
theorem cal_unit_vectors (G : Glb w K mg base) : C8.Cal PP w K mg base 1 "unit_vectors" (SpT (R_unit_vectors K)) [] :=
  cal_mk G 27 (d := d_unit_vectors) rfl rfl G.g_unit_vectors rfl sc_unit_vectors (spT_len fun Ts T ⟨_, h, _⟩ => by rw [h]; rfl) bi_unit_vectors (fun f cdv A outer s H vs Q E hr hsp => by
    obtain ⟨M, Ts, T, hM, hv, ⟨n, rfl, hn, rfl⟩, hq⟩ := hsp
    obtain ⟨v1, rfl, h1⟩ := allT1 hv
    cases dp_int h1
    refine ⟨_, (pss_one (ps_ret (pe_lc (own := [("at", 1)]) (g := (gName 1)) (tt := tYes) rfl sc_unit_vectors.nd (pi_range1 (by rfl) G.f_range (pa_cons (pv 0) pa_nil)) (blkOk_by (N := N_unit_vectors) (sc := d_unit_vectors.scope) (by decide +kernel)) (fun _ _ _ _ _ => (pg_name (i := 1) sc_unit_vectors.nd rfl (by first | exact Or.inl rfl | exact Or.inr rfl))) (fun _ _ _ _ _ => pts_nil) (fun _ _ _ _ _ => (pe_callTy (T := "tuple") (call_tuple_ofK (K := K) rfl) (by rfl) G.f_tuple (by decide +kernel) (pa_cons (pe_lc (own := [("index", 2)]) (g := (gName 2)) (tt := tYes) rfl sc_unit_vectors.nd (pi_range1 (by rfl) G.f_range (pa_cons (pv 0) pa_nil)) (blkOk_by (by rfl)) (fun _ _ _ _ _ => (pg_name (i := 2) sc_unit_vectors.nd rfl (by first | exact Or.inl rfl | exact Or.inr rfl))) (fun _ _ _ _ _ => pts_nil) (fun _ _ _ _ _ => (pe_callTy (T := "int") call_int1 (by rfl) G.f_int (by decide +kernel) (pa_cons (pe_cmpR op_eq (pv 2) (pv 1) (nomark _)) pa_nil)))) pa_nil)))))), ?_⟩
    refine sd_ret (K := K) (d := dL (WM.unitM n)) hM ((ed_lcR1 (n := n) (ea_one (ed_varI rfl)) (by omega) (fun k => dV ((List.range n).map fun j => if j = k then 1 else 0)) (fun _ => rfl) fun M' H' k ex hM' hk => ?_).to (by show _ = PyData.list ((WM.unitM n).map dV); rw [WM.unitM, List.map_map]; rfl)) fun v H1 e h => hq v H1 e h
    refine (ed_tupleOf (ed_lcR1 (K := K) (n := n) (ea_one (ed_varI rfl)) (by omega) (fun j => .int (if j = k then 1 else 0)) (fun _ => rfl) fun M2 H2 j ex2 hM2 hj => ?_)).to (by show _ = PyData.tuple (((List.range n).map fun j => if j = k then (1 : Int) else 0).map .int); rw [List.map_map]; rfl)
    have := ed_intB (K := K) (M := M2) (H := H2) (σ := [some (.int (n : Int)), some (.int (k : Int)), some (.int (j : Int))]) (ed_eqI (ed_varI (k := 2) rfl) (ed_varI (k := 1) rfl))
    have e2 : (if (decide ((j : Int) = k)) = true then (1 : Int) else 0) = if j = k then 1 else 0 := by
      by_cases z : j = k
      · simp [z]
      · have : ¬ (j : Int) = k := by omega
        simp [z, this]
    rw [e2] at this
    exact this)
end
end WL
end
section
set_option Elab.async false
set_option linter.all false
set_option maxRecDepth 100000
set_option maxHeartbeats 4000000
/-! D8: Span.restricted, Coset. -/
namespace WL
open PySem PySem.Spec PyProof.Rows L2 Evl HeadW
/-- the keys, the least first -/
def asc (L : WM.Pv) : List Int := (L.map fun p => (p.1 : Int)).mergeSort fun a b => decide (a ≤ b)
theorem asc_perm (L : WM.Pv) : (asc L).Perm (L.map fun p => (p.1 : Int)) := List.mergeSort_perm _ _
theorem asc_sorted (L : WM.Pv) : (asc L).Pairwise (· ≤ ·) := by
  have := List.pairwise_mergeSort (le := fun a b : Int => decide (a ≤ b)) (fun a b c h1 h2 => by simp at h1 h2 ⊢; omega) (fun a b => by simp; omega) (L.map fun p => (p.1 : Int))
  exact this.imp fun h => by simpa using h
theorem asc_uniq {ys : List Int} {L : WM.Pv} (h1 : ys.Perm (L.map fun p => (p.1 : Int))) (h2 : ys.Pairwise (· ≤ ·)) : ys = asc L :=
  List.Perm.eq_of_pairwise (fun a b _ _ h1 h2 => by omega) h2 (asc_sorted L) (h1.trans (asc_perm L).symm)
theorem asc_mem {L : WM.Pv} {y : Int} : y ∈ asc L ↔ ∃ k r, (k, r) ∈ L ∧ y = (k : Int) := by
  rw [(asc_perm L).mem_iff, List.mem_map]
  exact ⟨fun ⟨⟨k, r⟩, h1, h2⟩ => ⟨k, r, h1, h2.symm⟩, fun ⟨k, r, h1, h2⟩ => ⟨(k, r), h1, h2.symm⟩⟩
section
variable {K : PySem.W.Frag} {M : List Addr} {σ : L2.St} {H H' : Hp} {te : TE}
def rSortedDA : List V → Hp → VK → Prop := fun xs H Q => ∃ (a : Addr) (kvs : List (Key × V)) (ks : List Int), xs = [.ref a] ∧ Rd H a (.dK kvs) ∧ kvs.map (·.1) = ks.map Sum.inl ∧ ks.length < 64 ∧
    ∀ (ys : List Int) (p : Addr), ys.Perm ks → ys.Pairwise (· ≤ ·) → H p = none → Q (.ref p) (upd H p (.lst (ys.map V.int)))
theorem ed_sortedDA {L : WM.Pv} (h : EG M te σ H (tyDK K L)) (hl : L.length < 64) : ED K M (tCB rSortedDA (tCons te tNil)) σ H (.list ((asc L).map .int)) := fun hM H1 e Q q =>
  h hM H1 e _ fun v H2 e2 ⟨d, kvs, ev, hd, hkv⟩ => ⟨d, kvs, _, by rw [ev], .inl (hide_sub _ _ _ _ hd), hkv.keys, by rw [List.length_map]; exact hl, fun ys p h1 h2 hp => q _ _ (e2.trans (Ex.new hp)) (by
    rw [asc_uniq h1 h2]
    have := lst_new (K := K) (hM.ex (e.trans e2)) hp (dpAll_ints (K := K) (H := hide M H2) (asc L))
    exact this)⟩
end
theorem at_tail (v : List Int) (i : Nat) : WM.at_ v.tail i = WM.at_ v (i + 1) := by
  cases v with
  | nil => rfl
  | cons a v => rw [WM.at_succ]; rfl
theorem vec_tail {m : Int} {n : Nat} {v : List Int} (h : WM.Vec m (n + 1) v) : WM.Vec m n v.tail := ⟨by rw [List.length_tail, h.len]; rfl, fun a ha => h.rng a (List.mem_of_mem_tail ha)⟩
section
variable {w : World} {K : PySem.W.Frag} {mg : Str → Option Value} {base : Heap}
/-- the kept rest of the pivots -/
def rests (L : WM.Pv) : List (List Int) := ((asc L).filter fun a => decide (a > 0)).map fun a => ((L.lookup a.toNat).getD []).tail
theorem rests_mem {L : WM.Pv} (nd : (L.map (·.1)).Nodup) {u : List Int} : u ∈ rests L ↔ ∃ k r, (k, r) ∈ L ∧ 0 < k ∧ u = r.tail := by
  unfold rests
  rw [List.mem_map]
  constructor
  · rintro ⟨a, ha, rfl⟩
    rw [List.mem_filter] at ha
    obtain ⟨ha1, ha2⟩ := ha
    obtain ⟨k, r, h1, rfl⟩ := asc_mem.mp ha1
    have hk : 0 < k := by simpa using ha2
    refine ⟨k, r, h1, hk, ?_⟩
    rw [Int.toNat_natCast, WM.lookup_of nd h1]
    rfl
  · rintro ⟨k, r, h1, hk, rfl⟩
    refine ⟨(k : Int), List.mem_filter.mpr ⟨asc_mem.mpr ⟨k, r, h1, rfl⟩, by simpa using hk⟩, ?_⟩
    rw [Int.toNat_natCast, WM.lookup_of nd h1]
    rfl
theorem rests_len (L : WM.Pv) : (rests L).length ≤ L.length := by
  unfold rests
  rw [List.length_map]
  have h1 := List.length_filter_le (fun a : Int => decide (a > 0)) (asc L)
  have h2 : (asc L).length = L.length := by rw [(asc_perm L).length_eq, List.length_map]
  omega
abbrev N_Span_restricted : List Str := ["self", "weights", "divisor", "modulus", "width", "marked", "row", "pivots", "lead"]
theorem sc_Span_restricted : FnScope N_Span_restricted ["self", "weights", "divisor"] d_Span_restricted.scope := ⟨rfl, rfl, rfl, by decide +kernel, rfl, by decide +kernel, by decide +kernel⟩
theorem bi_Span_restricted (kV doc pm : Value) (an : Option Addr) (cdv ct : Value) (us : List Value) (hl : us.length = 3) : bindArgs (PySem.W.fnOf d_Span_restricted.name d_Span_restricted.qual d_Span_restricted.params d_Span_restricted.body d_Span_restricted.scope .none kV doc pm an cdv ct) ⟨us, []⟩ = pure ((["self", "weights", "divisor"] : List Str).zip us) := by
  match us, hl with
  | [_, _, _], _ => rfl

/-- the rest of a span, where the weighed sum is divided by d -/
def IsRest (K : PySem.W.Frag) (m : Int) (n : Nat) (TL : WM.Pv) (w : List Int) (d : Int) (fs : List (Str × Ty)) : Prop := ∃ TL', WM.Tab m n TL' ∧ (∀ f, WM.In m (WM.Gen TL') f ↔ WM.In m (WM.Gen TL) f ∧ d ∣ WM.dot w f) ∧ fs = fsSpan K m n TL'
def R_Span_restricted (K : PySem.W.Frag) (Ts : List Ty) (T : Ty) : Prop := ∃ (m : Int) (n : Nat) (TL : WM.Pv) (w : List Int) (d : Int), Ts = [tySpan K m n TL, tV K w, tI K d] ∧ 2 ≤ m ∧ m ≤ 60 ∧ 1 ≤ n ∧ n ≤ 12 ∧ WM.Tab m n TL ∧ WM.Vec m n w ∧ d ∣ m ∧ 0 < d ∧ T = tyEx (IsRest K m n TL w d) (tyO (cSpan K))
/-- a row with its reading ahead -/
def markD (m d : Int) (w : List Int) (r : List Int) : List Int := (WM.dot w (WM.at_ r) % m * (m / d) % m) :: r
theorem met_Span_restricted (G : Glb w K mg base) : C8.Met PP w K mg base 8 (cSpan K) "restricted" (SpT (R_Span_restricted K)) [] :=
  met_mk G 26 (d := d_Span_restricted) rfl rfl G.k_Span G.m_Span_restricted rfl sc_Span_restricted (spT_len fun Ts T ⟨_, _, _, _, _, h, _⟩ => by rw [h]; rfl) bi_Span_restricted (fun f cdv A outer s H vs Q E hr hsp => by
    obtain ⟨M, Ts, T, hM, hv, ⟨m, n, TL, w, d, rfl, hm, hm60, hn1, hn, ht, hw, hd, hd0, rfl⟩, hq⟩ := hsp
    obtain ⟨v1, v2, v3, rfl, h1, h2, h3⟩ := allT3 hv
    cases dp_int h3
    have hm0 : 0 < m := by omega
    have hdm : d ≤ m := Int.le_of_dvd hm0 hd
    have hTn := ht.piv.len_le
    refine ⟨_, (pss_cons (ps_par (i := 3) (j := 4) (by rfl) sc_Span_restricted.nd rfl rfl (by decide) rfl rfl (pa_cons (pe_fld (pv 0) rfl) (pa_cons (pe_fld (pv 0) rfl) pa_nil)) (by rfl))
      (pss_cons (ps_set (i := 5) sc_Span_restricted.nd rfl (by first | exact Or.inl rfl | exact Or.inr rfl) (pe_lst pa_nil))
      (pss_cons (ps_for PassesOwn.never rfl (pi_list (pe_fld (pv 0) rfl)) (pg_name (i := 6) sc_Span_restricted.nd rfl (by first | exact Or.inl rfl | exact Or.inr rfl)) (pss_one (ps_expr (pe_bm PySem.F.plainAttrs_list PySem.F.slot_list_append PySem.F.type_list_append mt_append (pv 5) (pa_cons (pe_op op_catA (pe_tup (pa_cons (pe_op op_mod (pe_op op_mul (C8.pe_c (cal_product G) hr (by decide) (by rfl) (pa_cons (pv 1) (pa_cons (pv 6) (pa_cons (pv 3) pa_nil)))) (pe_op op_fdiv (pv 3) (pv 2))) (pv 3)) pa_nil)) (pv 6)) pa_nil)))))
      (pss_cons (ps_set (i := 7) sc_Span_restricted.nd rfl (by first | exact Or.inl rfl | exact Or.inr rfl) (C8.pe_c (cal_pivots_of G) hr (by decide) (by rfl) (pa_cons (pv 5) (pa_cons (pe_op op_add (pv 4) pe_int) (pa_cons (pv 3) pa_nil)))))
      (pss_one (ps_ret (C8.pe_mk (mak_Span G) hr (by decide) (by rfl) (pa_cons (pv 3) (pa_cons (pv 4) (pa_cons (pe_lc (own := [("lead", 8)]) (g := (gName 8)) (tt := _) rfl sc_Span_restricted.nd (pi_list (pe_callB (id := "sorted") (call_sortedDI rfl) (by rfl) G.f_sorted (by decide +kernel) (pa_cons (pv 7) pa_nil))) (blkOk_by (N := N_Span_restricted) (sc := d_Span_restricted.scope) (by decide +kernel)) (fun _ _ _ _ _ => (pg_name (i := 8) sc_Span_restricted.nd rfl (by first | exact Or.inl rfl | exact Or.inr rfl))) (fun _ _ _ _ _ => (pts_one (pt_cmpR op_gt (pv 8) pe_int (nomark _)))) (fun _ _ _ _ _ => (pe_slice (sl_tupAK (K := K) rfl) (pe_dget (hu_of hr) (pv 7) (pv 8) (fun _ _ => rfl)) (po_some pe_int) po_none))) pa_nil)))))))))), ?_⟩
    refine sd_par hM (ea_cons (eg_fld (K := K) (T := tI K m) G.k_Span G.n_Span_kept_modulus rfl (eg_var rfl h1)).ed (ea_one (eg_fld (K := K) (T := tI K n) G.k_Span G.n_Span_kept_width rfl (eg_var rfl h1)).ed)) fun x4 x5 H1 e1 h4 h5 => ?_
    cases dp_int h4
    cases dp_int h5
    dsimp only
    refine s_new0 fun p hp => ?_
    dsimp only
    have hpM : p ∉ M := (hM.ex e1).new hp
    have hp0 : H p = none := fresh_back e1 hp
    have f0 : Fr [] M H (p :: M) (upd H1 p (.lst [])) := ((Fr.refl hM).gex e1).new hp
    have hsub : ∀ a ∈ M, a ∈ p :: M := fun a ha => by simp [ha]
    refine s_for f0.ok (ei_ld (K := K) (src := TL) (f := fun q => dV q.2) ((eg_fld (K := K) (T := dat K (dL (TL.map Prod.snd))) G.k_Span G.n_Span_kept_table rfl (eg_var rfl ((tySpan K m n TL).up f0.vis h1))).ed.to (by show PyData.list ((TL.map Prod.snd).map dV) = _; rw [List.map_map]; rfl))) (p :: M)
      (fun H1 i σ' H' => ∃ xs x y z, σ' = [some v1, some v2, some (.int d), some (.int m), some (.int n), some (.ref p), x, y, z] ∧ Fr [] M H (p :: M) H' ∧ Ex (hide (p :: M) H1) (hide (p :: M) H') ∧ H' p = some (.lst xs) ∧ DpAll K (hide (p :: M) H') xs (((TL.take i).map fun q => markD m d w q.2).map dV))
      (fun H1 i σ' H' e ⟨xs, x, y, z, _, p1, p2, _⟩ => ⟨p2, p1.ok⟩) (fun H2 e => ⟨[], none, none, none, rfl, f0.gex e, Ex.refl _, e p _ upd_same, .nil⟩) ?_ ?_
    · rintro H2 i ⟨k, r⟩ x σ' H' H3 e hi ⟨xs, x0, y0, z0, rfl, fr, ex1, hpx, hxs⟩ e3 hx
      have hmem := List.mem_of_getElem? hi
      have R := ht.piv.ok k r hmem
      have f3 := fr.gex e3
      have hdiv : 0 ≤ m / d ∧ m / d ≤ m := ⟨Int.ediv_nonneg (by omega) (by omega), Int.ediv_le_self _ (by omega)⟩
      refine s_append f3.ok (e3 p _ hpx) rfl (eg_catU (K := K) (Ts := [tI K _]) (Us := r.map fun a => tI K a) (by simp [R.len]; omega) (eg_tup (K := K) (by simp) (ega_one (ed_mod (K := K) hm0 (ed_mul (cmulR (by omega)) (ed_call (K := K) (R := R_product K) (ega_d (ed_var rfl (h2.mono f3.vis)) (ega_d (ed_var rfl hx) (ega_d (ed_varI rfl) ega_nil))) ⟨w, r, m, rfl, vec_sm hw hm0 (by omega) (by omega), hm0, rfl⟩)
        (ed_fdiv ⟨hd0, by omega⟩ (ed_varI rfl) (ed_varI rfl))) (ed_varI rfl)).eg)) (EG.ofV (ed_var rfl hx))) (by rw [dpAll_len hxs]; simp; omega) fun vv H4 e4 hvv => ?_
      have hvv : Dp K (hide (p :: M) H4) vv (dV (markD m d w r)) := tyU_dp (ds := (markD m d w r).map .int) (by rw [map_ints]; exact hvv)
      refine ⟨_, _, _, _, rfl, (f3.gex e4).upd (by simp) (.inr hp0), ?_, upd_same, ?_⟩
      · rw [hide_upd (by simp)]
        exact ex1.trans ((hide_ex e3).trans (hide_ex e4))
      · rw [hide_upd (by simp)]
        have : TL.take (i + 1) = TL.take i ++ [(k, r)] := by rw [List.take_add_one, hi]; rfl
        rw [this, List.map_append, List.map_append]
        exact dpAll_app (hxs.mono ((hide_ex e3).trans (hide_ex e4))) (dpAll_one hvv)
    · rintro H2 σ' H' e ⟨xs, x0, y0, z0, rfl, fr, ex1, hpx, hxs⟩
      rw [List.take_length] at hxs
      dsimp only
      have fb := fr.back hsub
      have hmk : Dp K (hide M H') (.ref p) (dL (TL.map fun q => markD m d w q.2)) := .lst (sq_of (by rw [hide_out hpM]; exact hpx)) (hxs.mono (hide_less hsub))
      have hmv : ∀ u ∈ TL.map (fun q => markD m d w q.2), WM.Vec m (n + 1) u := fun u hu => by
        obtain ⟨⟨k, r⟩, h, rfl⟩ := List.mem_map.mp hu
        have R := ht.piv.ok k r h
        refine ⟨by simp [markD, R.len], fun a ha => ?_⟩
        rcases List.mem_cons.mp ha with z | z
        · rw [z]
          exact ⟨Int.emod_nonneg _ (by omega), Int.emod_lt_of_pos _ hm0⟩
        · exact R.rng a z
      refine sg_set fb.ok (eg_call (R := R_pivots_of K) (ega_d (ed_var rfl hmk) (ega_d (ed_add (ed_varI rfl) ed_int) (ega_d (ed_varI rfl) ega_nil))) ⟨_, n + 1, m, rfl, hm, hm60, by omega, by simp; omega, hmv, rfl⟩) fun vp H3 e3 ⟨L1, hw1, hp1⟩ => ?_
      dsimp only
      have f3 := fb.gex e3
      have hL1 := hw1.piv.len_le
      have key := fun L2 => WM.span_restr hm0 hd hd0 (w := w) ht.piv (L1 := L1) (L2 := L2) (hw1.to (fun f ⟨k, r, h, hf⟩ => .gen ⟨markD m d w r, List.mem_map.mpr ⟨(k, r), h, rfl⟩, hf⟩) (fun f ⟨u, hu, hf⟩ => by
        obtain ⟨⟨k, r⟩, h, rfl⟩ := List.mem_map.mp hu
        exact .gen ⟨k, r, h, hf⟩))
      have hus : ∀ u ∈ rests L1, WM.Vec m n u := fun u hu => by
        obtain ⟨k, r, h, _, rfl⟩ := (rests_mem hw1.piv.nd).mp hu
        exact vec_tail (hw1.piv.ok k r h).toVec
      have hrl := rests_len L1
      refine sg_ret f3.ok ((eg_make (C := cSpan K) (R := R_Span_init K) (ega_d (ed_varI rfl) (ega_d (ed_varI rfl) (ega_d (d := dL (rests L1)) ((ed_lc (K := K) (ei_ld (K := K) (src := asc L1) (f := fun a => .int a) (ed_sortedDA (eg_var (T := tyDK K L1) rfl hp1) (by omega))) (by rw [(asc_perm L1).length_eq, List.length_map]; omega) (fun a => decide (a > 0)) (fun a => dV ((L1.lookup a.toNat).getD []).tail)
        fun M' H4 x a i ex hM' hi hx => ?_).to (by show _ = PyData.list ((rests L1).map dV); rw [rests, List.map_map]; rfl)) ega_nil))) ⟨rests L1, n, m, rfl, hm, hm60, hn1, hn, by omega, hus, rfl⟩).wk (U := tyEx (IsRest K m n TL w d) (tyO (cSpan K))) fun v Hx ⟨fs, ⟨TL', ⟨ht', hG⟩, hfs⟩, hv⟩ => ⟨fs, ⟨TL', ht', ?_, hfs⟩, hv⟩) fun v H4 e4 h => hq v H4 ((fr.out.trans e3).trans e4) h
      · obtain ⟨k, r, hkr, rfl⟩ := asc_mem.mp (List.mem_of_getElem? hi)
        cases dp_int hx
        have hlk := WM.lookup_of hw1.piv.nd hkr
        obtain ⟨dd, kvs, rfl, hdd, hkv⟩ := hp1
        have hgt : decide ((k : Int) > 0) = decide (0 < k) := by simp
        refine turn_name rfl (et_test (ed_cmp (ed_varI (K := K) rfl) ed_int)) fun _ => ?_
        have hdv := ed_dget (K := K) (M := M') (i := 8) (j := 7) (σ := [some v1, some v2, some (.int d), some (.int m), some (.int n), some (.ref p), x0, some (.ref dd), some (.int (k : Int))]) (H := H4) rfl rfl (hide_sub _ _ _ _ (ex _ _ hdd)) (hkv.up ex) hlk
        have hsl := eg_slU (K := K) (lo := some 1) (hi := none) (EG.ofV hdv) (fun H1 e1 => eo_some (K := K) (hM'.ex e1) ed_int) (fun H1 e1 => eo_none)
        rw [Int.toNat_natCast, hlk]
        refine (EG.toV (hsl.to ?_)).eg
        rw [cutT_map]
        show tyU K ((cutT r (some ((1 : Nat) : Int)) none).map _) = _
        rw [cutT_from]
        simp
      · refine key TL' fun f => ?_
        rw [hG f]
        constructor
        · refine fun h => h.weak fun g ⟨u, hu, hg⟩ => ?_
          obtain ⟨k, r, h1, h2, rfl⟩ := (rests_mem hw1.piv.nd).mp hu
          exact ⟨k, r, h1, h2, hg⟩
        · refine fun h => h.weak fun g ⟨k, r, h1, h2, hg⟩ => ⟨r.tail, (rests_mem hw1.piv.nd).mpr ⟨k, r, h1, h2, rfl⟩, hg⟩)
end
end WL
end
section
set_option Elab.async false
set_option linter.all false
set_option maxRecDepth 100000
set_option maxHeartbeats 4000000
/-! D9: Coset. -/
namespace WL
open PySem PySem.Spec PyProof.Rows L2 Evl HeadW
section
variable {w : World} {K : PySem.W.Frag} {mg : Str → Option Value} {base : Heap}
theorem Glb.c_Span (G : Glb w K mg base) : ∃ u, mg "Span" = some u ∧ RelV (.ref (cSpan K)) u := ⟨_, G.g_Span, rfl⟩
theorem Glb.isSpan (G : Glb w K mg base) : C8.InsC K (cSpan K) := by
  have h := (He.ba G.says.x).1
  obtain ⟨h1, h⟩ := He.ba h
  obtain ⟨h2, h⟩ := He.ba h
  obtain ⟨h3, h⟩ := He.ba h
  obtain ⟨h4, h5⟩ := He.ba h
  exact ⟨G.k_Span, He.eqO_ok h1, He.eqO_ok h2, of_decide_eq_true h3, of_decide_eq_true h4, of_decide_eq_true h5⟩
abbrev cCoset (K : PySem.W.Frag) : Addr := He.ga K "Coset"
abbrev fsCoset (K : PySem.W.Frag) (m : Int) (n : Nat) (TL : WM.Pv) (b : List Int) : List (Str × Ty) := [("differences", tySpan K m n TL), ("least_member", tV K b)]
abbrev tyCoset (K : PySem.W.Frag) (m : Int) (n : Nat) (TL : WM.Pv) (b : List Int) : Ty := tyO (cCoset K) (fsCoset K m n TL b)
abbrev N_Coset_init : List Str := ["self", "vector", "span"]
theorem sc_Coset_init : FnScope N_Coset_init ["self", "vector", "span"] d_Coset_init.scope := ⟨rfl, rfl, rfl, by decide +kernel, rfl, by decide +kernel, by decide +kernel⟩
theorem bi_Coset_init (kV doc pm : Value) (an : Option Addr) (cdv ct : Value) (us : List Value) (hl : us.length = 3) : bindArgs (PySem.W.fnOf d_Coset_init.name d_Coset_init.qual d_Coset_init.params d_Coset_init.body d_Coset_init.scope .none kV doc pm an cdv ct) ⟨us, []⟩ = pure ((["self", "vector", "span"] : List Str).zip us) := by
  match us, hl with
  | [_, _, _], _ => rfl

def IsCos (K : PySem.W.Frag) (m : Int) (n : Nat) (v : List Int) (Φ : WM.Pv → Prop) (fs : List (Str × Ty)) : Prop := ∃ TL, WM.Tab m n TL ∧ Φ TL ∧ fs = fsCoset K m n TL (WM.red m TL v)
def R_Coset_init (K : PySem.W.Frag) (Ts : List Ty) (P : List (Str × Ty) → Prop) : Prop := ∃ (m : Int) (n : Nat) (v : List Int) (Φ : WM.Pv → Prop) (P0 : List (Str × Ty) → Prop), Ts = [tV K v, tyEx P0 (tyO (cSpan K))] ∧ (∀ fs, P0 fs → ∃ TL, WM.Tab m n TL ∧ Φ TL ∧ fs = fsSpan K m n TL) ∧ 2 ≤ m ∧ m ≤ 60 ∧ n ≤ 12 ∧ WM.Vec m n v ∧ P = IsCos K m n v Φ
theorem mak_Coset (G : Glb w K mg base) : C8.Mak PP w K mg base 4 "Coset" (cCoset K) (SpI (cCoset K) (R_Coset_init K)) [] :=
  mak_mk G 28 (d := d_Coset_init) rfl rfl G.mk_Coset G.g_Coset rfl sc_Coset_init (spI_len (n := 2) fun Ts P ⟨_, _, _, _, _, h, _⟩ => by rw [h]; rfl) bi_Coset_init (fun f cdv A outer s H vs Q E hr hsp => by
    obtain ⟨M, x, dx, ws, Ts, P, rfl, hM, hxM, hx, hv, ⟨m, n, v, Φ, P0, rfl, hP0, hm, hm60, hn, hvec, rfl⟩, hq⟩ := hsp
    obtain ⟨v1, v2, rfl, h1, fs0, hfs0, h2⟩ := allT2 hv
    obtain ⟨TL, hT, hΦ, rfl⟩ := hP0 fs0 hfs0
    refine ⟨_, (pss_cons (ps_if (pt_not (pt_val (pe_callB (id := "isinstance") (C8.call_isC G.isSpan) (by rfl) G.f_isinstance (by decide +kernel) (pa_cons (pv 2) (pa_cons (C8.pe_gc (by rfl) G.c_Span) pa_nil))))) (pss_one ps_never) pss_nil)
      (pss_cons (ps_if (pt_not (pt_val (C8.pe_c (cal_is_vector G) hr (by decide) (by rfl) (pa_cons (pv 1) (pa_cons (C8.pe_mt0 (met_Span_modulus G) hr (by decide) (pv 2)) (pa_cons (C8.pe_mt0 (met_Span_width G) hr (by decide) (pv 2)) pa_nil)))))) (pss_one ps_never) pss_nil)
      (pss_cons (ps_fld (pv 0) (pv 2) rfl)
      (pss_one (ps_fld (pv 0) (C8.pe_mt (met_Span_least G) hr (by decide) (pv 2) (pa_cons (pv 1) pa_nil)) rfl))))), ?_⟩
    have isi : ET M (tNot (L2.tB (tCB (fun xs H Q => ∃ a dx fs, xs = [.ref a, .ref (cSpan K)] ∧ H a = some (.ins (cSpan K) dx fs) ∧ Q (.bl true) H) (tCons (tVar 2) (tCons (tC (.ref (cSpan K))) tNil))))) [some (.ref x), some v1, some v2] H (!true) := et_not (et_B (K := K) fun hM H1 e Q q => by
      obtain ⟨sp, sdx, sws, rfl, hsp, _⟩ := h2
      exact ⟨.ref sp, rfl, sp, sdx, _, rfl, e sp _ (hide_sub _ _ _ _ hsp), q _ H1 (Ex.refl _) (.bl true)⟩)
    refine sd_if (b := false) hM isi (fun hb => by cases hb) fun _ H1 e1 => ?_
    dsimp only [tNext]
    have h21 := (tySpan K m n TL).up (hide_ex (M := M) e1) h2
    refine sd_if (b := false) (hM.ex e1) ((et_not (et_B (ed_call (K := K) (R := R_is_vector K) (ega_d (ed_var rfl (h1.mono (hide_ex e1))) (ega_cons (eg_meth (R := R_Span_modulus K) (eg_var rfl h21) rfl ega_nil ⟨m, n, TL, rfl, rfl⟩) (ega_cons (eg_meth (R := R_Span_width K) (eg_var rfl h21) rfl ega_nil ⟨m, n, TL, rfl, rfl⟩) ega_nil))) ⟨v, m, n, rfl, hvec.len, by omega, rfl⟩))).to (by rw [vec_all hvec]; rfl)) (fun hb => by cases hb) fun _ H2 e2 => ?_
    dsimp only [tNext]
    have e02 := e1.trans e2
    refine s_fld (C := cCoset K) (l := []) (hM.ex e02) rfl (e02 x _ hx) G.k_Coset G.n_Coset_differences (by simp) (eg_var (T := tySpan K m n TL) rfl ((tySpan K m n TL).up (hide_ex e02) h2)) fun w1 H5 e5 hw1 => ?_
    have f5 := ((Fr.refl hM).gex (e02.trans e5)).upd (B := [x]) (a := x) (o := .ins (cCoset K) dx (putF "differences" w1 [])) hxM (.inl (by simp))
    have x5 : (upd H5 x (.ins (cCoset K) dx (putF "differences" w1 []))) x = some (.ins (cCoset K) dx [("differences", w1)]) := upd_same
    have hw1' : (tySpan K m n TL).p w1 (hide M (upd H5 x (.ins (cCoset K) dx (putF "differences" w1 [])))) := by rw [hide_upd hxM]; exact hw1
    generalize upd H5 x (.ins (cCoset K) dx (putF "differences" w1 [])) = H5' at f5 x5 hw1'
    dsimp only
    refine s_fld (C := cCoset K) f5.ok rfl x5 G.k_Coset G.n_Coset_least_member (by simp) (eg_meth (R := R_Span_least K) (eg_var (T := tySpan K m n TL) rfl ((tySpan K m n TL).up f5.vis h2)) rfl (ega_d (ed_var rfl (h1.mono f5.vis)) ega_nil) ⟨m, n, TL, v, rfl, hm, hm60, hn, hT, hvec, rfl⟩) fun w2 H6 e6 hw2 => ?_
    refine hq _ (fsCoset K m n TL (WM.red m TL v)) [w1, w2] ((f5.gex e6).upd hxM (.inl (by simp))) upd_same ?_ ⟨TL, hT, hΦ, rfl⟩
    rw [hide_upd hxM]
    exact .cons ((tySpan K m n TL).up (hide_ex e6) hw1') (.cons hw2 .nil))
abbrev N_Coset_base : List Str := ["self"]
theorem sc_Coset_base : FnScope N_Coset_base ["self"] d_Coset_base.scope := ⟨rfl, rfl, rfl, by decide +kernel, rfl, by decide +kernel, by decide +kernel⟩
theorem bi_Coset_base (kV doc pm : Value) (an : Option Addr) (cdv ct : Value) (us : List Value) (hl : us.length = 1) : bindArgs (PySem.W.fnOf d_Coset_base.name d_Coset_base.qual d_Coset_base.params d_Coset_base.body d_Coset_base.scope .none kV doc pm an cdv ct) ⟨us, []⟩ = pure ((["self"] : List Str).zip us) := by
  match us, hl with
  | [_], _ => rfl

def R_Coset_base (K : PySem.W.Frag) (Ts : List Ty) (T : Ty) : Prop := ∃ (m : Int) (n : Nat) (TL : WM.Pv) (b : List Int), Ts = [tyCoset K m n TL b] ∧ T = tV K b
theorem met_Coset_base (G : Glb w K mg base) : C8.Met PP w K mg base 1 (cCoset K) "base" (SpT (R_Coset_base K)) [] :=
  met_mk G 29 (d := d_Coset_base) rfl rfl G.k_Coset G.m_Coset_base rfl sc_Coset_base (spT_len fun Ts T ⟨_, _, _, _, h, _⟩ => by rw [h]; rfl) bi_Coset_base (fun f cdv A outer s H vs Q E hr hsp => by
    obtain ⟨M, Ts, T, hM, hv, ⟨m, n, TL, b, rfl, rfl⟩, hq⟩ := hsp
    obtain ⟨v1, rfl, h1⟩ := allT1 hv
    refine ⟨_, (pss_one (ps_ret (pe_fld (pv 0) rfl))), ?_⟩
    exact sg_ret hM (eg_fld (K := K) G.k_Coset G.n_Coset_least_member rfl (eg_var rfl h1)) fun v H1 e h => hq v H1 e h)
abbrev N_Coset_span : List Str := ["self"]
theorem sc_Coset_span : FnScope N_Coset_span ["self"] d_Coset_span.scope := ⟨rfl, rfl, rfl, by decide +kernel, rfl, by decide +kernel, by decide +kernel⟩
theorem bi_Coset_span (kV doc pm : Value) (an : Option Addr) (cdv ct : Value) (us : List Value) (hl : us.length = 1) : bindArgs (PySem.W.fnOf d_Coset_span.name d_Coset_span.qual d_Coset_span.params d_Coset_span.body d_Coset_span.scope .none kV doc pm an cdv ct) ⟨us, []⟩ = pure ((["self"] : List Str).zip us) := by
  match us, hl with
  | [_], _ => rfl

def R_Coset_span (K : PySem.W.Frag) (Ts : List Ty) (T : Ty) : Prop := ∃ (m : Int) (n : Nat) (TL : WM.Pv) (b : List Int), Ts = [tyCoset K m n TL b] ∧ T = tySpan K m n TL
theorem met_Coset_span (G : Glb w K mg base) : C8.Met PP w K mg base 1 (cCoset K) "span" (SpT (R_Coset_span K)) [] :=
  met_mk G 30 (d := d_Coset_span) rfl rfl G.k_Coset G.m_Coset_span rfl sc_Coset_span (spT_len fun Ts T ⟨_, _, _, _, h, _⟩ => by rw [h]; rfl) bi_Coset_span (fun f cdv A outer s H vs Q E hr hsp => by
    obtain ⟨M, Ts, T, hM, hv, ⟨m, n, TL, b, rfl, rfl⟩, hq⟩ := hsp
    obtain ⟨v1, rfl, h1⟩ := allT1 hv
    refine ⟨_, (pss_one (ps_ret (pe_fld (pv 0) rfl))), ?_⟩
    exact sg_ret hM (eg_fld (K := K) G.k_Coset G.n_Coset_differences rfl (eg_var rfl h1)) fun v H1 e h => hq v H1 e h)
abbrev N_Coset_size : List Str := ["self"]
theorem sc_Coset_size : FnScope N_Coset_size ["self"] d_Coset_size.scope := ⟨rfl, rfl, rfl, by decide +kernel, rfl, by decide +kernel, by decide +kernel⟩
theorem bi_Coset_size (kV doc pm : Value) (an : Option Addr) (cdv ct : Value) (us : List Value) (hl : us.length = 1) : bindArgs (PySem.W.fnOf d_Coset_size.name d_Coset_size.qual d_Coset_size.params d_Coset_size.body d_Coset_size.scope .none kV doc pm an cdv ct) ⟨us, []⟩ = pure ((["self"] : List Str).zip us) := by
  match us, hl with
  | [_], _ => rfl

def R_Coset_size (K : PySem.W.Frag) (Ts : List Ty) (T : Ty) : Prop := ∃ (m : Int) (n : Nat) (TL : WM.Pv) (b : List Int), Ts = [tyCoset K m n TL b] ∧ 2 ≤ m ∧ m ≤ 60 ∧ n ≤ 12 ∧ WM.Tab m n TL ∧ T = tI K (WM.sz m TL)
theorem met_Coset_size (G : Glb w K mg base) : C8.Met PP w K mg base 2 (cCoset K) "size" (SpT (R_Coset_size K)) [] :=
  met_mk G 31 (d := d_Coset_size) rfl rfl G.k_Coset G.m_Coset_size rfl sc_Coset_size (spT_len fun Ts T ⟨_, _, _, _, h, _⟩ => by rw [h]; rfl) bi_Coset_size (fun f cdv A outer s H vs Q E hr hsp => by
    obtain ⟨M, Ts, T, hM, hv, ⟨m, n, TL, b, rfl, hm, hm60, hn, ht, rfl⟩, hq⟩ := hsp
    obtain ⟨v1, rfl, h1⟩ := allT1 hv
    refine ⟨_, (pss_one (ps_ret (C8.pe_mt0 (met_Span_size G) hr (by decide) (pe_fld (pv 0) rfl)))), ?_⟩
    exact sg_ret hM (eg_meth (R := R_Span_size K) (eg_fld (K := K) G.k_Coset G.n_Coset_differences rfl (eg_var rfl h1)) rfl ega_nil ⟨m, n, TL, rfl, hm, hm60, hn, ht, rfl⟩) fun v H1 e h => hq v H1 e h)
theorem zip_comb (m t : Int) (u v : List Int) : List.zipWith (fun a b => (a + t * b) % m) u v = WM.comb m 1 u t v := by
  unfold WM.comb
  simp
abbrev N_Coset_contains : List Str := ["self", "vector"]
theorem sc_Coset_contains : FnScope N_Coset_contains ["self", "vector"] d_Coset_contains.scope := ⟨rfl, rfl, rfl, by decide +kernel, rfl, by decide +kernel, by decide +kernel⟩
theorem bi_Coset_contains (kV doc pm : Value) (an : Option Addr) (cdv ct : Value) (us : List Value) (hl : us.length = 2) : bindArgs (PySem.W.fnOf d_Coset_contains.name d_Coset_contains.qual d_Coset_contains.params d_Coset_contains.body d_Coset_contains.scope .none kV doc pm an cdv ct) ⟨us, []⟩ = pure ((["self", "vector"] : List Str).zip us) := by
  match us, hl with
  | [_, _], _ => rfl

def R_Coset_contains (K : PySem.W.Frag) (Ts : List Ty) (T : Ty) : Prop := ∃ (m : Int) (n : Nat) (TL : WM.Pv) (b v : List Int), Ts = [tyCoset K m n TL b, tV K v] ∧ 2 ≤ m ∧ m ≤ 60 ∧ 1 ≤ n ∧ n ≤ 12 ∧ WM.Cos m n TL b ∧ WM.Vec m n v ∧ T = tB K (decide (WM.red m TL (WM.comb m 1 v (-1) b) = zeros n))
theorem met_Coset_contains (G : Glb w K mg base) : C8.Met PP w K mg base 5 (cCoset K) "contains" (SpT (R_Coset_contains K)) [] :=
  met_mk G 32 (d := d_Coset_contains) rfl rfl G.k_Coset G.m_Coset_contains rfl sc_Coset_contains (spT_len fun Ts T ⟨_, _, _, _, _, h, _⟩ => by rw [h]; rfl) bi_Coset_contains (fun f cdv A outer s H vs Q E hr hsp => by
    obtain ⟨M, Ts, T, hM, hv, ⟨m, n, TL, b, v, rfl, hm, hm60, hn1, hn, hc, hvec, rfl⟩, hq⟩ := hsp
    obtain ⟨v1, v2, rfl, h1, h2⟩ := allT2 hv
    have hm0 : 0 < m := by omega
    refine ⟨_, (pss_one (ps_ret (C8.pe_mt (met_Span_contains G) hr (by decide) (pe_fld (pv 0) rfl) (pa_cons (C8.pe_c (cal_plus_multiple G) hr (by decide) (by rfl) (pa_cons (pv 1) (pa_cons (pe_un un_neg pe_int) (pa_cons (pe_fld (pv 0) rfl) (pa_cons (C8.pe_mt0 (met_Span_modulus G) hr (by decide) (pe_fld (pv 0) rfl)) pa_nil))))) pa_nil)))), ?_⟩
    have fld : EG M (tFld K (tVar 0) "differences") [some v1, some v2] H (tySpan K m n TL) := eg_fld (K := K) G.k_Coset G.n_Coset_differences rfl (eg_var (T := tyCoset K m n TL b) rfl h1)
    refine sg_ret hM (eg_meth (R := R_Span_contains K) fld rfl (ega_d (d := dV (WM.comb m 1 v (-1) b)) (ed_call (K := K) (R := R_plus_multiple K) (ega_d (ed_var rfl h2) (ega_d (ed_neg ed_int) (ega_cons (eg_fld (K := K) (T := tV K b) G.k_Coset G.n_Coset_least_member rfl (eg_var rfl h1)) (ega_cons (eg_meth (R := R_Span_modulus K) fld rfl ega_nil ⟨m, n, TL, rfl, rfl⟩) ega_nil)))) ⟨v, -1, b, m, rfl, by rw [hvec.len]; omega, vec_sm hc.vec hm0 (by omega) (by omega), hm0, by rw [zip_comb]⟩) ega_nil)
      ⟨m, n, TL, _, rfl, hm, hm60, hn1, hn, hc.tab, WM.Vec.comb hm0 hvec.len hc.vec.len, rfl⟩) fun v H1 e h => hq v H1 e h)
abbrev N_Coset_known : List Str := ["self", "weights", "modulus", "steps", "row", "divisor"]
theorem sc_Coset_known : FnScope N_Coset_known ["self", "weights"] d_Coset_known.scope := ⟨rfl, rfl, rfl, by decide +kernel, rfl, by decide +kernel, by decide +kernel⟩
theorem bi_Coset_known (kV doc pm : Value) (an : Option Addr) (cdv ct : Value) (us : List Value) (hl : us.length = 2) : bindArgs (PySem.W.fnOf d_Coset_known.name d_Coset_known.qual d_Coset_known.params d_Coset_known.body d_Coset_known.scope .none kV doc pm an cdv ct) ⟨us, []⟩ = pure ((["self", "weights"] : List Str).zip us) := by
  match us, hl with
  | [_, _], _ => rfl

def R_Coset_known (K : PySem.W.Frag) (Ts : List Ty) (T : Ty) : Prop := ∃ (m : Int) (n : Nat) (TL : WM.Pv) (b w : List Int), Ts = [tyCoset K m n TL b, tV K w] ∧ 2 ≤ m ∧ m ≤ 60 ∧ n ≤ 12 ∧ WM.Cos m n TL b ∧ WM.Vec m n w ∧ T = dat K (.tuple [.int (WM.known m TL w), .int (WM.dot w (WM.at_ b) % m % WM.known m TL w)])
theorem met_Coset_known (G : Glb w K mg base) : C8.Met PP w K mg base 3 (cCoset K) "known" (SpT (R_Coset_known K)) [] :=
  met_mk G 33 (d := d_Coset_known) rfl rfl G.k_Coset G.m_Coset_known rfl sc_Coset_known (spT_len fun Ts T ⟨_, _, _, _, _, h, _⟩ => by rw [h]; rfl) bi_Coset_known (fun f cdv A outer s H vs Q E hr hsp => by
    obtain ⟨M, Ts, T, hM, hv, ⟨m, n, TL, b, w, rfl, hm, hm60, hn, hc, hw, rfl⟩, hq⟩ := hsp
    obtain ⟨v1, v2, rfl, h1, h2⟩ := allT2 hv
    have hm0 : 0 < m := by omega
    have hTn := hc.tab.piv.len_le
    have hws := vec_sm hw hm0 (by omega) (by omega)
    refine ⟨_, (pss_cons (ps_set (i := 2) sc_Coset_known.nd rfl (by first | exact Or.inl rfl | exact Or.inr rfl) (C8.pe_mt0 (met_Span_modulus G) hr (by decide) (pe_fld (pv 0) rfl)))
      (pss_cons (ps_setLc (i := 3) (own := [("row", 4)]) (g := (gName 4)) (tt := tYes) rfl sc_Coset_known.nd rfl rfl (sw_true rfl rfl rfl (by decide +kernel)) (pi_list (C8.pe_mt0 (met_Span_table G) hr (by decide) (pe_fld (pv 0) rfl))) (blkOk_by (N := N_Coset_known) (sc := d_Coset_known.scope) (by decide +kernel)) (fun _ _ _ _ _ => (pg_name (i := 4) sc_Coset_known.nd rfl (by first | exact Or.inl rfl | exact Or.inr rfl))) (fun _ _ _ _ _ => pts_nil) (fun _ _ _ _ _ => (C8.pe_c (cal_product G) hr (by decide) (by rfl) (pa_cons (pv 1) (pa_cons (pv 4) (pa_cons (pv 2) pa_nil))))))
      (pss_cons (ps_set (i := 5) sc_Coset_known.nd rfl (by first | exact Or.inl rfl | exact Or.inr rfl) (C8.pe_c (cal_content G) hr (by decide) (by rfl) (pa_cons (pv 3) (pa_cons (pv 2) pa_nil))))
      (pss_one (ps_ret (pe_tup (pa_cons (pv 5) (pa_cons (pe_op op_mod (C8.pe_c (cal_product G) hr (by decide) (by rfl) (pa_cons (pv 1) (pa_cons (pe_fld (pv 0) rfl) (pa_cons (pv 2) pa_nil)))) (pv 5)) pa_nil)))))))), ?_⟩
    have fld : ∀ (τ : L2.St) H1, Ex H H1 → τ[0]? = some (some v1) → EG M (tFld K (tVar 0) "differences") τ H1 (tySpan K m n TL) := fun τ H1 e h => eg_fld (K := K) G.k_Coset G.n_Coset_differences rfl (eg_var (T := tyCoset K m n TL b) h ((tyCoset K m n TL b).up (hide_ex e) h1))
    refine sg_set hM (eg_meth (R := R_Span_modulus K) (fld _ H (Ex.refl _) rfl) rfl ega_nil ⟨m, n, TL, rfl, rfl⟩) fun v3 H1 e1 h3 => ?_
    cases dp_int h3
    dsimp only
    refine sd_set (hM.ex e1) (ed_lcL1 (K := K) (src := TL) (g := fun q => dV q.2) ((eg_meth (R := R_Span_table K) (fld _ H1 e1 rfl) rfl ega_nil ⟨m, n, TL, rfl, rfl⟩).ed.to (by show PyData.list ((TL.map Prod.snd).map dV) = _; rw [List.map_map]; rfl)) (by omega) (fun q => .int (WM.dot w (WM.at_ q.2) % m)) (fun _ => rfl) fun M' H' y q ex hM' hq' hy => ?_) fun v4 H2 e2 h4 => ?_
    · exact ed_call (K := K) (R := R_product K) (ega_d (ed_var rfl ((h2.mono (hide_ex e1)).mono ex)) (ega_d (ed_var rfl hy) (ega_d (ed_varI rfl) ega_nil))) ⟨w, q.2, m, rfl, hws, hm0, rfl⟩
    · dsimp only
      have e02 := e1.trans e2
      have hkn := WM.known_spec hm0 (L := TL) w
      have hkm : WM.known m TL w ≤ m := Int.le_of_dvd hm0 hkn.2.1
      refine sd_set (hM.ex e02) (ed_call (K := K) (d := .int (WM.known m TL w)) (R := R_content K) (ega_d (d := .list ((TL.map fun q => WM.dot w (WM.at_ q.2) % m).map .int)) (ed_var rfl (by rw [List.map_map]; exact h4)) (ega_d (ed_varI rfl) ega_nil)) ⟨_, m, rfl, hm0, by omega, ?_⟩) fun v5 H3 e3 h5 => ?_
      · have : ((TL.map fun q => WM.dot w (WM.at_ q.2) % m).map fun a => a % m) = TL.map fun q => WM.dot w (WM.at_ q.2) % m := by
          rw [List.map_map]
          exact List.map_congr_left fun q _ => Int.emod_emod_of_dvd _ (Int.dvd_refl m)
        rw [this]
        rfl
      cases dp_int h5
      dsimp only
      have e03 := e02.trans e3
      exact sd_ret (hM.ex e03) (ed_tup (K := K) (by simp) (ea_cons (ed_varI rfl) (ea_one (ed_mod hkn.1 (ed_call (K := K) (R := R_product K) (ega_d (ed_var rfl (h2.mono (hide_ex e03))) (ega_cons (eg_fld (K := K) (T := tV K b) G.k_Coset G.n_Coset_least_member rfl (eg_var rfl ((tyCoset K m n TL b).up (hide_ex e03) h1))) (ega_d (ed_varI rfl) ega_nil))) ⟨w, b, m, rfl, hws, hm0, rfl⟩) (ed_varI rfl))))) fun v H4 e4 h => hq v H4 (e03.trans e4) h)
end
end WL
end
section
set_option Elab.async false
set_option linter.all false
set_option maxRecDepth 100000
set_option maxHeartbeats 4000000
/-! D10: Coset.step_towards, Coset.restricted. -/
namespace WL
open PySem PySem.Spec PyProof.Rows L2 Evl HeadW
section
variable {K : PySem.W.Frag} {M : List Addr} {σ : L2.St} {H H' : Hp} {te : TE}
/-- [d] * k, the list just made -/
theorem ed_rep1 {d : PyData} {k : Nat} {ta : TE} (hk : k ≤ 1000) (ha : ED K M ta σ H d) (hb : ED K M te σ H (.int (k : Int))) : ED K M (tOp rRep (tLst (tCons ta tNil)) te) σ H (.list (List.replicate k d)) := fun hM H1 e Q q =>
  ha hM H1 e _ fun v H2 e2 hv => ⟨by rw [sizeLine_eq]; simp, fun p hp => hb hM _ ((e.trans e2).trans (Ex.new hp)) _ fun y H3 e3 hy => ⟨p, k, [v], rfl, dp_int hy, e3 p _ upd_same, by omega, by omega, by rw [sizeLine_eq]; simp; omega, fun l hl => q _ _ (((e2.trans (Ex.new hp)).trans e3).trans (Ex.new hl)) (by
    have e23 : Ex H2 H3 := (Ex.new hp).trans e3
    have h := dpAll_rep (dpAll_one (hv.mono (hide_ex e23))) k
    have hM3 : MOk M H3 := hM.ex ((e.trans e2).trans e23)
    have := lst_new (K := K) hM3 hl h
    have e1 : (List.replicate k [d]).flatten = List.replicate k d := by
      have : ∀ k : Nat, (List.replicate k [d]).flatten = List.replicate k d := fun k => by
        induction k with
        | zero => rfl
        | succ k ih => rw [List.replicate_succ, List.flatten_cons, ih, List.replicate_succ]; rfl
      exact this k
    rw [e1] at this
    rw [Int.toNat_natCast]
    exact this)⟩⟩
end
theorem at_zeros (n i : Nat) : WM.at_ (zeros n) i = 0 := by
  unfold WM.at_ zeros
  rw [List.getD_eq_getElem?_getD, List.getElem?_replicate]
  split <;> rfl
theorem vec_zeros {m : Int} (hm : 0 < m) (n : Nat) : WM.Vec m n (zeros n) := ⟨by simp, fun a ha => by
  have := List.eq_of_mem_replicate ha
  omega⟩
theorem at_map {f : Int → Int} (hf : f 0 = 0) (v : List Int) (i : Nat) : WM.at_ (v.map f) i = f (WM.at_ v i) := by
  unfold WM.at_
  rw [List.getD_eq_getElem?_getD, List.getD_eq_getElem?_getD, List.getElem?_map]
  cases v[i]? <;> simp [hf]
section
variable {w : World} {K : PySem.W.Frag} {mg : Str → Option Value} {base : Heap}
abbrev N_Coset_step_towards : List Str := ["self", "weights", "modulus", "reached", "vector", "row", "factor", "times", "entry"]
theorem sc_Coset_step_towards : FnScope N_Coset_step_towards ["self", "weights"] d_Coset_step_towards.scope := ⟨rfl, rfl, rfl, by decide +kernel, rfl, by decide +kernel, by decide +kernel⟩
theorem bi_Coset_step_towards (kV doc pm : Value) (an : Option Addr) (cdv ct : Value) (us : List Value) (hl : us.length = 2) : bindArgs (PySem.W.fnOf d_Coset_step_towards.name d_Coset_step_towards.qual d_Coset_step_towards.params d_Coset_step_towards.body d_Coset_step_towards.scope .none kV doc pm an cdv ct) ⟨us, []⟩ = pure ((["self", "weights"] : List Str).zip us) := by
  match us, hl with
  | [_, _], _ => rfl

def tyStep (K : PySem.W.Frag) (m : Int) (n : Nat) (TL : WM.Pv) (w : List Int) : Ty := tyEx (fun u => WM.Vec m n u ∧ WM.In m (WM.Gen TL) (WM.at_ u) ∧ m ∣ WM.dot w (WM.at_ u) - WM.known m TL w) (tV K)
def R_Coset_step_towards (K : PySem.W.Frag) (Ts : List Ty) (T : Ty) : Prop := ∃ (m : Int) (n : Nat) (TL : WM.Pv) (b w : List Int), Ts = [tyCoset K m n TL b, tV K w] ∧ 2 ≤ m ∧ m ≤ 60 ∧ n ≤ 12 ∧ WM.Cos m n TL b ∧ WM.Vec m n w ∧ T = tyStep K m n TL w
theorem gcd_comm' (a b : Int) : (Int.gcd a b : Int) = (Int.gcd b a : Int) := by rw [Int.gcd_comm]
theorem met_Coset_step_towards (G : Glb w K mg base) : C8.Met PP w K mg base 2 (cCoset K) "step_towards" (SpT (R_Coset_step_towards K)) [] :=
  met_mk G 34 (d := d_Coset_step_towards) rfl rfl G.k_Coset G.m_Coset_step_towards rfl sc_Coset_step_towards (spT_len fun Ts T ⟨_, _, _, _, _, h, _⟩ => by rw [h]; rfl) bi_Coset_step_towards (fun f cdv A outer s H vs Q E hr hsp => by
    obtain ⟨M, Ts, T, hM, hv, ⟨m, n, TL, b, w, rfl, hm, hm60, hn, hc, hw, rfl⟩, hq⟩ := hsp
    obtain ⟨v1, v2, rfl, h1, h2⟩ := allT2 hv
    have hm0 : 0 < m := by omega
    have hTn := hc.tab.piv.len_le
    have hws := vec_sm hw hm0 (by omega) (by omega)
    refine ⟨_, (pss_cons (ps_set (i := 2) sc_Coset_step_towards.nd rfl (by first | exact Or.inl rfl | exact Or.inr rfl) (C8.pe_mt0 (met_Span_modulus G) hr (by decide) (pe_fld (pv 0) rfl)))
      (pss_cons (ps_par (i := 3) (j := 4) (by rfl) sc_Coset_step_towards.nd rfl rfl (by decide) rfl rfl (pa_cons (pv 2) (pa_cons (pe_callTy (T := "tuple") call_tuple_of (by rfl) G.f_tuple (by decide +kernel) (pa_cons (pe_op op_rep (pe_lst (pa_cons pe_int pa_nil)) (C8.pe_mt0 (met_Span_width G) hr (by decide) (pe_fld (pv 0) rfl))) pa_nil)) pa_nil)) (by rfl))
      (pss_cons (ps_for PassesOwn.never rfl (pi_list (C8.pe_mt0 (met_Span_table G) hr (by decide) (pe_fld (pv 0) rfl))) (pg_name (i := 5) sc_Coset_step_towards.nd rfl (by first | exact Or.inl rfl | exact Or.inr rfl)) (pss_cons (ps_asg (C8.pe_c (cal_bezout G) hr (by decide) (by rfl) (pa_cons (pv 3) (pa_cons (C8.pe_c (cal_product G) hr (by decide) (by rfl) (pa_cons (pv 1) (pa_cons (pv 5) (pa_cons (pv 2) pa_nil)))) pa_nil))) (pg_tup rfl (pgs_cons (pg_name (i := 3) sc_Coset_step_towards.nd rfl (by first | exact Or.inl rfl | exact Or.inr rfl)) (pgs_cons (pg_name (i := 6) sc_Coset_step_towards.nd rfl (by first | exact Or.inl rfl | exact Or.inr rfl)) (pgs_cons (pg_name (i := 7) sc_Coset_step_towards.nd rfl (by first | exact Or.inl rfl | exact Or.inr rfl)) pgs_nil)))))
      (pss_one (ps_set (i := 4) sc_Coset_step_towards.nd rfl (by first | exact Or.inl rfl | exact Or.inr rfl) (C8.pe_c (cal_plus_multiple G) hr (by decide) (by rfl) (pa_cons (pe_callTy (T := "tuple") call_tuple_of (by rfl) G.f_tuple (by decide +kernel) (pa_cons (pe_lc (own := [("entry", 8)]) (g := (gName 8)) (tt := tYes) rfl sc_Coset_step_towards.nd (pi_tup (pv 4)) (blkOk_by (N := N_Coset_step_towards) (sc := d_Coset_step_towards.scope) (by decide +kernel)) (fun _ _ _ _ _ => (pg_name (i := 8) sc_Coset_step_towards.nd rfl (by first | exact Or.inl rfl | exact Or.inr rfl))) (fun _ _ _ _ _ => pts_nil) (fun _ _ _ _ _ => (pe_op op_mul (pv 6) (pv 8)))) pa_nil)) (pa_cons (pv 7) (pa_cons (pv 5) (pa_cons (pv 2) pa_nil)))))))))
      (pss_one (ps_ret (pv 4)))))), ?_⟩
    have fld : ∀ (τ : L2.St) H1, Ex H H1 → τ[0]? = some (some v1) → EG M (tFld K (tVar 0) "differences") τ H1 (tySpan K m n TL) := fun τ H1 e h => eg_fld (K := K) G.k_Coset G.n_Coset_differences rfl (eg_var (T := tyCoset K m n TL b) h ((tyCoset K m n TL b).up (hide_ex e) h1))
    refine sg_set hM (eg_meth (R := R_Span_modulus K) (fld _ H (Ex.refl _) rfl) rfl ega_nil ⟨m, n, TL, rfl, rfl⟩) fun v3 H1 e1 h3 => ?_
    cases dp_int h3
    dsimp only
    refine sd_par (d2 := dV (zeros n)) (hM.ex e1) (ea_cons (ed_varI (K := K) rfl) (ea_one (ed_tupleOf ((ed_rep1 (d := .int 0) (k := n) (by omega) ed_int (eg_meth (R := R_Span_width K) (fld _ H1 e1 rfl) rfl ega_nil ⟨m, n, TL, rfl, rfl⟩).ed).to (by show _ = PyData.list ((zeros n).map .int); rw [zeros, List.map_replicate]))))) fun x4 x5 H2 e2 h4 h5 => ?_
    cases dp_int h4
    dsimp only
    have e02 := e1.trans e2
    refine s_forP (hM.ex e02) (ei_ld (K := K) (src := TL) (f := fun q => dV q.2) ((eg_meth (R := R_Span_table K) (fld _ H2 e02 rfl) rfl ega_nil ⟨m, n, TL, rfl, rfl⟩).ed.to (by show PyData.list ((TL.map Prod.snd).map dV) = _; rw [List.map_map]; rfl)))
      (fun i σ' H' => ∃ u vu y1 y2 y3 y4, σ' = [some v1, some v2, some (.int m), some (.int (WM.known m (TL.take i) w)), some vu, y1, y2, y3, y4] ∧ Dp K (hide M H') vu (dV u) ∧ WM.Vec m n u ∧ WM.In m (WM.Gen TL) (WM.at_ u) ∧ m ∣ WM.dot w (WM.at_ u) - WM.known m (TL.take i) w)
      (fun H3 e => ⟨zeros n, x5, none, none, none, none, rfl, h5.mono (hide_ex e), vec_zeros hm0 n, .zero fun i => by rw [at_zeros]; exact Int.dvd_zero _, ?_⟩) ?_ ?_
    · have : WM.known m (TL.take 0) w = m := rfl
      rw [this]
      have h0 : WM.dot w (WM.at_ (zeros n)) = 0 := by
        have : m ∣ WM.dot w (WM.at_ (zeros n)) := WM.dot_dvd w fun i => by rw [at_zeros]; exact Int.dvd_zero _
        have h2 : ∀ (w : List Int) (f : WM.F), (∀ i, f i = 0) → WM.dot w f = 0 := fun w => by
          induction w with
          | nil => intro f _; rfl
          | cons a w ih =>
            intro f hf
            unfold WM.dot
            rw [hf 0, ih (fun i => f (i + 1)) fun i => hf (i + 1)]
            simp
        exact h2 w _ (at_zeros n)
      rw [h0]
      exact ⟨-1, by omega⟩
    · rintro H3 i ⟨k, r⟩ x σ' H' H4 e3 e4 hi ⟨u, vu, y1, y2, y3, y4, rfl, hu, hV, hIn, hdv⟩ e5 hx
      have e := ((e02.trans e3).trans e4).trans e5
      have hmem := List.mem_of_getElem? hi
      have R := hc.tab.piv.ok k r hmem
      have Rs := vec_sm R.toVec hm0 (by omega) (by omega)
      have hkn := WM.known_spec hm0 (L := TL.take i) w
      have hkm : WM.known m (TL.take i) w ≤ m := Int.le_of_dvd hm0 hkn.2.1
      have hp0 := Int.emod_nonneg (WM.dot w (WM.at_ r)) (by omega : m ≠ 0)
      have hp1 := Int.emod_lt_of_pos (WM.dot w (WM.at_ r)) hm0
      have hkt : WM.known m (TL.take (i + 1)) w = (Int.gcd (WM.known m (TL.take i) w) (WM.dot w (WM.at_ r) % m) : Int) := by
        have : TL.take (i + 1) = TL.take i ++ [(k, r)] := by rw [List.take_add_one, hi]; rfl
        unfold WM.known
        rw [this, List.map_append, List.map_singleton, gcdL_snoc, gcd_comm']
      refine sg_bind (hM.ex e) (eg_call (R := R_bezout K) (ega_d (ed_varI (K := K) rfl) (ega_d (ed_call (K := K) (R := R_product K) (ega_d (ed_var rfl (h2.mono (hide_ex e))) (ega_d (ed_var rfl hx) (ega_d (ed_varI rfl) ega_nil))) ⟨w, r, m, rfl, hws, hm0, rfl⟩) ega_nil)) ⟨_, _, rfl, by omega, by omega, hp0, by omega, rfl⟩) fun vb H6 e6 ⟨s1, t1, hst, hvb⟩ => ?_
      refine g_tup3 hvb fun z1 z2 z3 hg hs ht => ?_
      cases dp_int hg
      cases dp_int hs
      cases dp_int ht
      dsimp only
      have e06 := e.trans e6
      have hu6 := hu.mono (hide_ex (M := M) (e5.trans e6))
      have Us := vec_sm hV hm0 (by omega) (by omega)
      refine sd_set (hM.ex e06) (ed_call (K := K) (d := dV (WM.comb m s1 u t1 r)) (R := R_plus_multiple K) (ega_d (d := dV (u.map fun a => s1 * a)) (ed_vec ((ed_lcT1 (K := K) (src := u) (g := fun a => .int a) (ed_var rfl hu6) (by have := Us.1; omega) (fun a => .int (s1 * a)) (fun _ => rfl) fun M' H7 y a ex hM' ha hy => ?_).to (by rw [List.map_map]; rfl))) (ega_d (ed_varI rfl) (ega_d (ed_var rfl (Dp.mono hx (hide_ex e6))) (ega_d (ed_varI rfl) ega_nil)))) ⟨_, t1, r, m, rfl, by rw [List.length_map, hV.len]; omega, Rs, hm0, ?_⟩) fun vn H7 e7 hvn => ?_
      · exact ed_mul (cmulR (Us.2 a ha)) (ed_varI (K := K) rfl) (ed_var rfl hy)
      · congr 2
        unfold WM.comb
        rw [List.zipWith_map_left]
      · refine ⟨(e4.trans e5).trans (e6.trans e7), WM.comb m s1 u t1 r, vn, _, _, _, _, by rw [hkt]; rfl, hvn, WM.Vec.comb hm0 hV.len R.len, hIn.lin (WM.In.gen ⟨k, r, hmem, rfl⟩) fun j => WM.comb_cg (by rw [hV.len, R.len]) j, ?_⟩
        have d1 : m ∣ WM.dot w (WM.at_ (WM.comb m s1 u t1 r)) - WM.dot w (fun j => s1 * WM.at_ u j + t1 * WM.at_ r j) := WM.dot_cg w fun j => WM.comb_cg (by rw [hV.len, R.len]) j
        rw [WM.dot_lin] at d1
        have d2 := WM.emod_cg m (WM.dot w (WM.at_ r))
        rw [hkt, ← hst]
        obtain ⟨c1, d1⟩ := d1
        obtain ⟨c2, d2⟩ := d2
        obtain ⟨c3, d3⟩ := hdv
        exact ⟨c1 + s1 * c3 - t1 * c2, by grind⟩
    · rintro σ' H' e ⟨u, vu, y1, y2, y3, y4, rfl, hu, hV, hIn, hdv⟩
      rw [List.take_length] at hdv
      dsimp only
      exact sd_ret (hM.ex (e02.trans e)) (ed_var (K := K) rfl hu) fun v H3 e3 h => hq v H3 ((e02.trans e).trans e3) ⟨u, ⟨hV, hIn, hdv⟩, h⟩)
end
end WL
end
section
set_option Elab.async false
set_option linter.all false
set_option maxRecDepth 100000
set_option maxHeartbeats 4000000
/-! D11: Coset.restricted. -/
namespace WL
open PySem PySem.Spec PyProof.Rows L2 Evl HeadW
section
variable {w : World} {K : PySem.W.Frag} {mg : Str → Option Value} {base : Heap}
abbrev N_Coset_restricted : List Str := ["self", "weights", "divisor", "remainder", "modulus", "step", "reached", "common", "missing", "rest", "times", "vector"]
theorem sc_Coset_restricted : FnScope N_Coset_restricted ["self", "weights", "divisor", "remainder"] d_Coset_restricted.scope := ⟨rfl, rfl, rfl, by decide +kernel, rfl, by decide +kernel, by decide +kernel⟩
theorem bi_Coset_restricted (kV doc pm : Value) (an : Option Addr) (cdv ct : Value) (us : List Value) (hl : us.length = 4) : bindArgs (PySem.W.fnOf d_Coset_restricted.name d_Coset_restricted.qual d_Coset_restricted.params d_Coset_restricted.body d_Coset_restricted.scope .none kV doc pm an cdv ct) ⟨us, []⟩ = pure ((["self", "weights", "divisor", "remainder"] : List Str).zip us) := by
  match us, hl with
  | [_, _, _, _], _ => rfl

def IsPart (K : PySem.W.Frag) (m : Int) (n : Nat) (TL : WM.Pv) (b w : List Int) (d p : Int) (fs : List (Str × Ty)) : Prop := ∃ TL' b', WM.Cos m n TL' b' ∧ (∀ x, WM.Mem m n TL' b' x ↔ WM.Mem m n TL b x ∧ d ∣ WM.dot w (WM.at_ x) - p) ∧ fs = fsCoset K m n TL' b'
/-- nothing is left, or a coset -/
def tyPart (K : PySem.W.Frag) (m : Int) (n : Nat) (TL : WM.Pv) (b w : List Int) (d p : Int) : Ty := ⟨fun v H => (v = .non ∧ ∀ x, WM.Mem m n TL b x → ¬ d ∣ WM.dot w (WM.at_ x) - p) ∨ (tyEx (IsPart K m n TL b w d p) (tyO (cCoset K))).p v H, fun e h => h.imp id fun h => (tyEx (IsPart K m n TL b w d p) (tyO (cCoset K))).up e h⟩
def R_Coset_restricted (K : PySem.W.Frag) (Ts : List Ty) (T : Ty) : Prop := ∃ (m : Int) (n : Nat) (TL : WM.Pv) (b w : List Int) (d p : Int), Ts = [tyCoset K m n TL b, tV K w, tI K d, tI K p] ∧ 2 ≤ m ∧ m ≤ 60 ∧ 1 ≤ n ∧ n ≤ 12 ∧ WM.Cos m n TL b ∧ WM.Vec m n w ∧ d ∣ m ∧ 0 < d ∧ T = tyPart K m n TL b w d p
theorem met_Coset_restricted (G : Glb w K mg base) : C8.Met PP w K mg base 9 (cCoset K) "restricted" (SpT (R_Coset_restricted K)) [] :=
  met_mk G 35 (d := d_Coset_restricted) rfl rfl G.k_Coset G.m_Coset_restricted rfl sc_Coset_restricted (spT_len fun Ts T ⟨_, _, _, _, _, _, _, h, _⟩ => by rw [h]; rfl) bi_Coset_restricted (fun f cdv A outer s H vs Q E hr hsp => by
    obtain ⟨M, Ts, T, hM, hv, ⟨m, n, TL, b, w, d, p, rfl, hm, hm60, hn1, hn, hc, hw, hd, hd0, rfl⟩, hq⟩ := hsp
    obtain ⟨v1, v2, v3, v4, rfl, h1, h2, h3, h4⟩ := allT4 hv
    cases dp_int h3
    cases dp_int h4
    have hm0 : 0 < m := by omega
    have hdm : d ≤ m := Int.le_of_dvd hm0 hd
    have hws := vec_sm hw hm0 (by omega) (by omega)
    have hbs := vec_sm hc.vec hm0 (by omega) (by omega)
    have hkn := WM.known_spec hm0 (L := TL) w
    have hkm : WM.known m TL w ≤ m := Int.le_of_dvd hm0 hkn.2.1
    generalize hg : WM.known m TL w = g at hkn hkm
    generalize hB : WM.dot w (WM.at_ b) % m = B
    have hB0 : 0 ≤ B := by rw [← hB]; exact Int.emod_nonneg _ (by omega)
    have hB1 : B < m := by rw [← hB]; exact Int.emod_lt_of_pos _ hm0
    refine ⟨_, (pss_cons (ps_set (i := 4) sc_Coset_restricted.nd rfl (by first | exact Or.inl rfl | exact Or.inr rfl) (C8.pe_mt0 (met_Span_modulus G) hr (by decide) (pe_fld (pv 0) rfl)))
      (pss_cons (ps_asg (C8.pe_mt (met_Coset_known G) hr (by decide) (pv 0) (pa_cons (pv 1) pa_nil)) (pg_tup rfl (pgs_cons (pg_name (i := 5) sc_Coset_restricted.nd rfl (by first | exact Or.inl rfl | exact Or.inr rfl)) (pgs_cons (pg_name (i := 6) sc_Coset_restricted.nd rfl (by first | exact Or.inl rfl | exact Or.inr rfl)) pgs_nil))))
      (pss_cons (ps_set (i := 7) sc_Coset_restricted.nd rfl (by first | exact Or.inl rfl | exact Or.inr rfl) (C8.pe_c (cal_content G) hr (by decide) (by rfl) (pa_cons (pe_lst (pa_cons (pv 5) pa_nil)) (pa_cons (pv 2) pa_nil))))
      (pss_cons (ps_set (i := 8) sc_Coset_restricted.nd rfl (by first | exact Or.inl rfl | exact Or.inr rfl) (pe_op op_sub (pv 3) (pv 6)))
      (pss_cons (ps_if (pt_cmpR op_ne (pe_op op_mod (pv 8) (pv 7)) pe_int (nomark _)) (pss_one (ps_ret pe_non)) pss_nil)
      (pss_cons (ps_set (i := 8) sc_Coset_restricted.nd rfl (by first | exact Or.inl rfl | exact Or.inr rfl) (pe_op op_sub (pv 3) (C8.pe_c (cal_product G) hr (by decide) (by rfl) (pa_cons (pv 1) (pa_cons (pe_fld (pv 0) rfl) (pa_cons (pv 4) pa_nil))))))
      (pss_cons (ps_set (i := 9) sc_Coset_restricted.nd rfl (by first | exact Or.inl rfl | exact Or.inr rfl) (pe_op op_fdiv (pv 2) (pv 7)))
      (pss_cons (ps_set (i := 10) sc_Coset_restricted.nd rfl (by first | exact Or.inl rfl | exact Or.inr rfl) (pe_ifExp (pt_cmpR op_eq (pv 9) pe_int (nomark _)) pe_int (pe_op op_mul (pe_op op_fdiv (pv 8) (pv 7)) (C8.pe_c (cal_invert G) hr (by decide) (by rfl) (pa_cons (pe_op op_fdiv (pv 5) (pv 7)) (pa_cons (pv 9) pa_nil))))))
      (pss_cons (ps_set (i := 11) sc_Coset_restricted.nd rfl (by first | exact Or.inl rfl | exact Or.inr rfl) (C8.pe_c (cal_plus_multiple G) hr (by decide) (by rfl) (pa_cons (pe_fld (pv 0) rfl) (pa_cons (pv 10) (pa_cons (C8.pe_mt (met_Coset_step_towards G) hr (by decide) (pv 0) (pa_cons (pv 1) pa_nil)) (pa_cons (pv 4) pa_nil))))))
      (pss_one (ps_ret (C8.pe_mk (mak_Coset G) hr (by decide) (by rfl) (pa_cons (pv 11) (pa_cons (C8.pe_mt (met_Span_restricted G) hr (by decide) (pe_fld (pv 0) rfl) (pa_cons (pv 1) (pa_cons (pv 2) pa_nil))) pa_nil)))))))))))))), ?_⟩
    have slf : ∀ H1, Ex H H1 → (tyCoset K m n TL b).p v1 (hide M H1) := fun H1 e => (tyCoset K m n TL b).up (hide_ex e) h1
    have fld : ∀ (τ : L2.St) H1, Ex H H1 → τ[0]? = some (some v1) → EG M (tFld K (tVar 0) "differences") τ H1 (tySpan K m n TL) := fun τ H1 e h => eg_fld (K := K) G.k_Coset G.n_Coset_differences rfl (eg_var (T := tyCoset K m n TL b) h (slf H1 e))
    refine sg_set hM (eg_meth (R := R_Span_modulus K) (fld _ H (Ex.refl _) rfl) rfl ega_nil ⟨m, n, TL, rfl, rfl⟩) fun v5 H1 e1 h5 => ?_
    cases dp_int h5
    dsimp only
    refine sg_bind (hM.ex e1) (eg_meth (R := R_Coset_known K) (eg_var (T := tyCoset K m n TL b) rfl (slf H1 e1)) rfl (ega_d (ed_var rfl (h2.mono (hide_ex e1))) ega_nil) ⟨m, n, TL, b, w, rfl, hm, hm60, hn, hc, hw, rfl⟩) fun vk H2 e2 hvk => ?_
    refine g_tup2 hvk fun y1 y2 hy1 hy2 => ?_
    rw [hg] at hy1 hy2
    rw [hB] at hy2
    cases dp_int hy1
    cases dp_int hy2
    dsimp only
    have e02 := e1.trans e2
    generalize hcg : (Int.gcd g d : Int) = c
    have hc0 : 0 < c := by have := Int.gcd_pos_of_ne_zero_left d (a := g) (by omega); omega
    have hcgd : c ∣ g := hcg ▸ Int.gcd_dvd_left ..
    have hcdd : c ∣ d := hcg ▸ Int.gcd_dvd_right ..
    have hcd : c ≤ d := Int.le_of_dvd hd0 hcdd
    refine sd_set (hM.ex e02) (ed_call (K := K) (d := .int c) (R := R_content K) (ega_d (ed_lst (K := K) (ds := [g].map .int) (by simp) (ea_one (ed_varI rfl))) (ega_d (ed_varI rfl) ega_nil)) ⟨[g], d, rfl, hd0, by omega, ?_⟩) fun v7 H3 e3 h7 => ?_
    · rw [← hcg, List.map_singleton, gcdL_one]
      congr 2
      have h1 : (Int.gcd (g % d) d : Int) ∣ (Int.gcd g d : Int) := Int.dvd_coe_gcd (WM.dvd_of_sub (b := g % d) (by have := Int.dvd_trans (Int.gcd_dvd_right (g % d) d) (WM.emod_cg d g); obtain ⟨z, hz⟩ := this; exact ⟨-z, by grind⟩) (Int.gcd_dvd_left ..)) (Int.gcd_dvd_right ..)
      have h2 : (Int.gcd g d : Int) ∣ (Int.gcd (g % d) d : Int) := Int.dvd_coe_gcd (WM.dvd_of_sub (b := g) (Int.dvd_trans (Int.gcd_dvd_right g d) (WM.emod_cg d g)) (Int.gcd_dvd_left ..)) (Int.gcd_dvd_right ..)
      have p1 : 0 < (Int.gcd g d : Int) := by rw [hcg]; exact hc0
      have p2 : 0 < (Int.gcd (g % d) d : Int) := by have := Int.gcd_pos_of_ne_zero_right (g % d) (b := d) (by omega); omega
      exact WM.gcd_uniq p1 p2 h2 h1
    cases dp_int h7
    dsimp only
    have e03 := e02.trans e3
    refine sd_set (hM.ex e03) (ed_sub (K := K) (ed_varI rfl) (ed_varI rfl)) fun v8 H4 e4 h8 => ?_
    cases dp_int h8
    dsimp only
    have e04 := e03.trans e4
    refine sd_if (hM.ex e04) (et_test (ed_neI (K := K) (ed_mod hc0 (ed_varI rfl) (ed_varI rfl)) ed_int)) (fun hb H5 e5 => ?_) (fun hb H5 e5 => ?_)
    · simp at hb
      refine sd_ret (K := K) (hM.ex (e04.trans e5)) ed_non fun v H6 e6 h => hq v H6 ((e04.trans e5).trans e6) (.inl ⟨dp_non h, fun x hx => ?_⟩)
      refine WM.cos_none hm0 hd hkn.2.2.1 hcgd hcdd ?_ hx
      rw [hB]
      exact fun z => hb (Int.emod_eq_zero_of_dvd z)
    · simp at hb
      dsimp only [tNext]
      have e05 := e04.trans e5
      have hmis0 : c ∣ p - B % g := Int.dvd_of_emod_eq_zero hb
      have hmis : c ∣ p - B := by
        have := Int.dvd_trans hcgd (WM.emod_cg g B)
        obtain ⟨z1, hz1⟩ := hmis0
        obtain ⟨z2, hz2⟩ := this
        exact ⟨z1 + z2, by grind⟩
      refine sd_set (hM.ex e05) (ed_sub (K := K) (ed_varI rfl) (ed_call (K := K) (d := .int B) (R := R_product K) (ega_d (ed_var rfl (h2.mono (hide_ex e05))) (ega_cons (eg_fld (K := K) (T := tV K b) G.k_Coset G.n_Coset_least_member rfl (eg_var rfl (slf H5 e05))) (ega_d (ed_varI rfl) ega_nil))) ⟨w, b, m, rfl, hws, hm0, by rw [hB]⟩)) fun v9 H6 e6 h9 => ?_
      cases dp_int h9
      dsimp only
      have e06 := e05.trans e6
      refine sd_set (hM.ex e06) (ed_fdiv (K := K) ⟨hc0, by omega⟩ (ed_varI rfl) (ed_varI rfl)) fun v10 H7 e7 h10 => ?_
      cases dp_int h10
      dsimp only
      have e07 := e06.trans e7
      obtain ⟨g', hg'⟩ := hcgd
      obtain ⟨d', hd'⟩ := hcdd
      have hgc : g / c = g' := by rw [hg', Int.mul_ediv_cancel_left _ (by omega)]
      have hdc : d / c = d' := by rw [hd', Int.mul_ediv_cancel_left _ (by omega)]
      have hg'0 : 0 < g' := WM.pos_fac hc0 (hg' ▸ hkn.1)
      have hd'0 : 0 < d' := WM.pos_fac hc0 (hd' ▸ hd0)
      have hd'm : d' ≤ d := by rw [← hdc]; exact Int.ediv_le_self _ (by omega)
      have hcop : Int.gcd g' d' = 1 := by
        have h1 : (Int.gcd g d : Int) = c * (Int.gcd g' d' : Int) := by
          rw [hg', hd', Int.gcd_mul_left]
          have : (c.natAbs : Int) = c := by omega
          push_cast
          rw [this]
        rw [hcg] at h1
        have h2 : c * 1 = c * (Int.gcd g' d' : Int) := by omega
        have := Int.eq_of_mul_eq_mul_left (by omega) h2
        omega
      have step : EG M (tIf (tTest (tOp rEq (tVar 9) (tC (.int 1)))) (tC (.int 0)) (tOp (rI CMul fun i j => .int (i * j)) (tOp (rI CDiv fun i j => .int (i / j)) (tVar 8) (tVar 7)) (tCall (SpT (R_invert K)) [] C8.E0 (tCons (tOp (rI CDiv fun i j => .int (i / j)) (tVar 5) (tVar 7)) (tCons (tVar 9) tNil)))))
          [some v1, some v2, some (.int d), some (.int p), some (.int m), some (.int g), some (.int (B % g)), some (.int c), some (.int (p - B)), some (.int (d / c)), none, none] H7 (tyEx (fun t => d ∣ B + t * g - p) (tI K)) := by
        refine eg_if (et_test (ed_eqI (K := K) (ed_varI rfl) ed_int)) (fun hb => ?_) (fun hb => ?_)
        · simp at hb
          refine (ed_int (K := K) (i := 0)).eg.wk fun v H' h => ⟨0, ?_, h⟩
          have : d = c := by rw [hd', ← hdc, hb]; omega
          rw [this]
          obtain ⟨z, hz⟩ := hmis
          exact ⟨-z, by grind⟩
        · simp at hb
          intro hM' H8 e8 Q q
          refine ed_fdiv (K := K) ⟨hc0, by omega⟩ (ed_varI rfl) (ed_varI rfl) hM' H8 e8 _ fun x H9 e9 hx => ?_
          refine eg_call (R := R_invert K) (ega_d (ed_fdiv (K := K) ⟨hc0, by omega⟩ (ed_varI rfl) (ed_varI rfl)) (ega_d (ed_varI (K := K) rfl) ega_nil)) ⟨g / c, d / c, rfl, by omega, by omega, ?_, rfl⟩ hM' H9 (e8.trans e9) _ fun y HA eA ⟨r, hr1, hr2, hr3, hy⟩ => ?_
          · rw [hgc, hdc, ← hcop]
            have z : (Int.gcd (g' % d') d' : Int) = (Int.gcd g' d' : Int) := by
              have h1 : (Int.gcd (g' % d') d' : Int) ∣ (Int.gcd g' d' : Int) := Int.dvd_coe_gcd (WM.dvd_of_sub (b := g' % d') (by have := Int.dvd_trans (Int.gcd_dvd_right (g' % d') d') (WM.emod_cg d' g'); obtain ⟨z, hz⟩ := this; exact ⟨-z, by grind⟩) (Int.gcd_dvd_left ..)) (Int.gcd_dvd_right ..)
              have h2 : (Int.gcd g' d' : Int) ∣ (Int.gcd (g' % d') d' : Int) := Int.dvd_coe_gcd (WM.dvd_of_sub (b := g') (Int.dvd_trans (Int.gcd_dvd_right g' d') (WM.emod_cg d' g')) (Int.gcd_dvd_left ..)) (Int.gcd_dvd_right ..)
              have p1 : 0 < (Int.gcd g' d' : Int) := by rw [hcop]; decide
              have p2 : 0 < (Int.gcd (g' % d') d' : Int) := by have := Int.gcd_pos_of_ne_zero_right (g' % d') (b := d') (by omega); omega
              exact WM.gcd_uniq p2 p1 h1 h2
            omega
          · refine ⟨(p - B) / c, r, dp_int hx, dp_int hy, cmulR (by rw [hdc] at hr3; omega), q _ HA (e9.trans eA) ⟨(p - B) / c * r, ?_, .int _⟩⟩
            exact WM.times_ok hcg.symm hc0 rfl hmis hr1
      refine sg_set (hM.ex e07) step fun vt H8 e8 ⟨t, ht, hvt⟩ => ?_
      cases dp_int hvt
      dsimp only
      have e08 := e07.trans e8
      -- the step's vector, then the new least member
      have hcomb : EG M (tCall (SpT (R_plus_multiple K)) [] C8.E0 (tCons (tFld K (tVar 0) "least_member") (tCons (tVar 10) (tCons (tMeth (cCoset K) "step_towards" (SpT (R_Coset_step_towards K)) [] C8.E0 (tVar 0) (tCons (tVar 1) tNil)) (tCons (tVar 4) tNil)))))
          [some v1, some v2, some (.int d), some (.int p), some (.int m), some (.int g), some (.int (B % g)), some (.int c), some (.int (p - B)), some (.int (d / c)), some (.int t), none] H8 (tyEx (fun u => WM.Vec m n u ∧ WM.In m (WM.Gen TL) (WM.at_ u) ∧ m ∣ WM.dot w (WM.at_ u) - WM.known m TL w) (fun u => tV K (WM.comb m 1 b t u))) :=
        eg_callX (Ts := [tV K b, tI K t, tyStep K m n TL w, tI K m]) (ega_cons (eg_fld (K := K) (T := tV K b) G.k_Coset G.n_Coset_least_member rfl (eg_var (T := tyCoset K m n TL b) rfl (slf H8 e08))) (ega_d (ed_varI rfl) (ega_cons (eg_meth (R := R_Coset_step_towards K) (eg_var (T := tyCoset K m n TL b) rfl (slf H8 e08)) rfl (ega_d (ed_var rfl (h2.mono (hide_ex e08))) ega_nil) ⟨m, n, TL, b, w, rfl, hm, hm60, hn, hc, hw, rfl⟩) (ega_d (ed_varI rfl) ega_nil)))) fun vs H' ha => by
          obtain ⟨x1, x2, x3, x4, rfl, a1, a2, ⟨u, hu, a3⟩, a4⟩ := allT4 ha
          exact ⟨[tV K b, tI K t, tV K u, tI K m], _, .cons a1 (.cons a2 (.cons a3 (.cons a4 .nil))), ⟨b, t, u, m, rfl, by rw [hc.vec.len]; omega, vec_sm hu.1 hm0 (by omega) (by omega), hm0, rfl⟩, fun v H'' h => ⟨u, hu, by rw [zip_comb] at h; exact h⟩⟩
      refine sg_set (hM.ex e08) hcomb fun v11 HB eB ⟨u, ⟨hu1, hu2, hu3⟩, h11⟩ => ?_
      rw [hg] at hu3
      have e0B := e08.trans eB
      have hvV : WM.Vec m n (WM.comb m 1 b t u) := WM.Vec.comb hm0 hc.vec.len hu1.len
      have hcgi : ∀ i, m ∣ WM.at_ (WM.comb m 1 b t u) i - (1 * WM.at_ b i + t * WM.at_ u i) := fun i => WM.comb_cg (by rw [hc.vec.len, hu1.len]) i
      have hvin : WM.In m (WM.Gen TL) (fun i => WM.at_ (WM.comb m 1 b t u) i - WM.at_ b i) := (hu2.smul' t).cg fun i => by
        obtain ⟨z, hz⟩ := hcgi i
        exact ⟨z, by grind⟩
      have hvd : d ∣ WM.dot w (WM.at_ (WM.comb m 1 b t u)) - p := by
        have k1 := WM.dot_cg w hcgi
        rw [WM.dot_lin] at k1
        have k2 := WM.emod_cg m (WM.dot w (WM.at_ b))
        rw [hB] at k2
        obtain ⟨z1, k1⟩ := Int.dvd_trans hd k1
        obtain ⟨z2, k2⟩ := Int.dvd_trans hd k2
        obtain ⟨z3, k3⟩ := Int.dvd_trans hd hu3
        obtain ⟨z4, k4⟩ := ht
        exact ⟨z1 - z2 + t * z3 + z4, by grind⟩
      dsimp only
      refine sg_ret (hM.ex e0B) ((eg_make (C := cCoset K) (R := R_Coset_init K) (ega_cons (T := tV K (WM.comb m 1 b t u)) (eg_var rfl h11) (ega_cons (eg_meth (R := R_Span_restricted K) (fld _ HB e0B rfl) rfl (ega_d (ed_var rfl (h2.mono (hide_ex e0B))) (ega_d (ed_varI (K := K) rfl) ega_nil)) ⟨m, n, TL, w, d, rfl, hm, hm60, hn1, hn, hc.tab, hw, hd, hd0, rfl⟩) ega_nil))
        ⟨m, n, _, fun TL' => ∀ f, WM.In m (WM.Gen TL') f ↔ WM.In m (WM.Gen TL) f ∧ d ∣ WM.dot w f, _, rfl, fun fs h => h, hm, hm60, hn, hvV, rfl⟩).wk (U := tyPart K m n TL b w d p) fun v Hx ⟨fs, ⟨TL', ht', hG, hfs⟩, hv⟩ => .inr ⟨fs, ⟨TL', _, WM.Cos.of hm0 ht' hvV, fun x => ?_, hfs⟩, hv⟩) fun v HC eC h => hq v HC (e0B.trans eC) h
      rw [WM.mem_red hm0 ht' hvV]
      exact WM.cos_some hd hG hvin hvd x)
end
end WL
end
section
set_option Elab.async false
set_option linter.all false
set_option maxRecDepth 100000
set_option maxHeartbeats 4000000
/-! D12: windows and plans as data, window_named, part_window, check_part. -/
namespace WL
open PySem PySem.Spec PyProof.Rows L2 Evl HeadW
abbrev W : Type := WM.Win Str
abbrev Pl : Type := WM.Plan Str
def dMv : Option Nat → PyData
  | none => .none
  | some k => .int (k : Int)
def dWin (w : W) : PyData := .tuple [.str w.name, .int w.src, .int w.tgt, .int w.fac, .int w.pane, .tuple (w.moves.map dMv)]
abbrev dWins (ws : List W) : PyData := .list (ws.map dWin)
mutual
def dPlan : Pl → PyData
  | .none => .none
  | .look nm subs => .tuple [.str nm, .list (dPlans subs)]
def dPlans : List Pl → List PyData
  | [] => []
  | p :: ps => dPlan p :: dPlans ps
end
theorem dPlans_map : ∀ ps : List Pl, dPlans ps = ps.map dPlan
  | [] => rfl
  | p :: ps => by rw [dPlans, dPlans_map ps]; rfl
theorem dPlan_look (nm : Str) (subs : List Pl) : dPlan (.look nm subs) = .tuple [.str nm, .list (subs.map dPlan)] := by rw [dPlan, dPlans_map]
theorem dPlan_none : dPlan .none = .none := by rw [dPlan]
mutual
def wid : Pl → Nat
  | .none => 1
  | .look _ subs => wids subs
def wids : List Pl → Nat
  | [] => 0
  | p :: ps => wid p + wids ps
end
theorem wids_sum : ∀ ps : List Pl, wids ps = (ps.map wid).sum
  | [] => rfl
  | p :: ps => by rw [wids, wids_sum ps]; rfl
theorem wid_look (nm : Str) (subs : List Pl) : wid (.look nm subs) = (subs.map wid).sum := by rw [wid, wids_sum]
abbrev cCab (K : PySem.W.Frag) : Addr := He.ga K "Cabinet"
abbrev fsCab (K : PySem.W.Frag) (m : Int) (n st : Nat) (ws : List W) : List (Str × Ty) := [("own_modulus", tI K m), ("wheel_count", tI K n), ("mark_count", tI K st), ("window_list", dat K (dWins ws))]
abbrev tyCab (K : PySem.W.Frag) (m : Int) (n st : Nat) (ws : List W) : Ty := tyO (cCab K) (fsCab K m n st ws)
section
variable {w : World} {K : PySem.W.Frag} {mg : Str → Option Value} {base : Heap}
abbrev N_Cabinet_modulus : List Str := ["self"]
theorem sc_Cabinet_modulus : FnScope N_Cabinet_modulus ["self"] d_Cabinet_modulus.scope := ⟨rfl, rfl, rfl, by decide +kernel, rfl, by decide +kernel, by decide +kernel⟩
theorem bi_Cabinet_modulus (kV doc pm : Value) (an : Option Addr) (cdv ct : Value) (us : List Value) (hl : us.length = 1) : bindArgs (PySem.W.fnOf d_Cabinet_modulus.name d_Cabinet_modulus.qual d_Cabinet_modulus.params d_Cabinet_modulus.body d_Cabinet_modulus.scope .none kV doc pm an cdv ct) ⟨us, []⟩ = pure ((["self"] : List Str).zip us) := by
  match us, hl with
  | [_], _ => rfl

def R_Cabinet_modulus (K : PySem.W.Frag) (Ts : List Ty) (T : Ty) : Prop := ∃ (m : Int) (n st : Nat) (ws : List W), Ts = [tyCab K m n st ws] ∧ T = tI K m
theorem met_Cabinet_modulus (G : Glb w K mg base) : C8.Met PP w K mg base 1 (cCab K) "modulus" (SpT (R_Cabinet_modulus K)) [] :=
  met_mk G 44 (d := d_Cabinet_modulus) rfl rfl G.k_Cabinet G.m_Cabinet_modulus rfl sc_Cabinet_modulus (spT_len fun Ts T ⟨_, _, _, _, h, _⟩ => by rw [h]; rfl) bi_Cabinet_modulus (fun f cdv A outer s H vs Q E hr hsp => by
    obtain ⟨M, Ts, T, hM, hv, ⟨m, n, st, ws, rfl, rfl⟩, hq⟩ := hsp
    obtain ⟨v1, rfl, h1⟩ := allT1 hv
    refine ⟨_, (pss_one (ps_ret (pe_fld (pv 0) rfl))), ?_⟩
    exact sg_ret hM (eg_fld (K := K) G.k_Cabinet G.n_Cabinet_own_modulus rfl (eg_var rfl h1)) fun v H1 e h => hq v H1 e h)
abbrev N_Cabinet_wheels : List Str := ["self"]
theorem sc_Cabinet_wheels : FnScope N_Cabinet_wheels ["self"] d_Cabinet_wheels.scope := ⟨rfl, rfl, rfl, by decide +kernel, rfl, by decide +kernel, by decide +kernel⟩
theorem bi_Cabinet_wheels (kV doc pm : Value) (an : Option Addr) (cdv ct : Value) (us : List Value) (hl : us.length = 1) : bindArgs (PySem.W.fnOf d_Cabinet_wheels.name d_Cabinet_wheels.qual d_Cabinet_wheels.params d_Cabinet_wheels.body d_Cabinet_wheels.scope .none kV doc pm an cdv ct) ⟨us, []⟩ = pure ((["self"] : List Str).zip us) := by
  match us, hl with
  | [_], _ => rfl

def R_Cabinet_wheels (K : PySem.W.Frag) (Ts : List Ty) (T : Ty) : Prop := ∃ (m : Int) (n st : Nat) (ws : List W), Ts = [tyCab K m n st ws] ∧ T = tI K n
theorem met_Cabinet_wheels (G : Glb w K mg base) : C8.Met PP w K mg base 1 (cCab K) "wheels" (SpT (R_Cabinet_wheels K)) [] :=
  met_mk G 45 (d := d_Cabinet_wheels) rfl rfl G.k_Cabinet G.m_Cabinet_wheels rfl sc_Cabinet_wheels (spT_len fun Ts T ⟨_, _, _, _, h, _⟩ => by rw [h]; rfl) bi_Cabinet_wheels (fun f cdv A outer s H vs Q E hr hsp => by
    obtain ⟨M, Ts, T, hM, hv, ⟨m, n, st, ws, rfl, rfl⟩, hq⟩ := hsp
    obtain ⟨v1, rfl, h1⟩ := allT1 hv
    refine ⟨_, (pss_one (ps_ret (pe_fld (pv 0) rfl))), ?_⟩
    exact sg_ret hM (eg_fld (K := K) G.k_Cabinet G.n_Cabinet_wheel_count rfl (eg_var rfl h1)) fun v H1 e h => hq v H1 e h)
abbrev N_Cabinet_windows : List Str := ["self"]
theorem sc_Cabinet_windows : FnScope N_Cabinet_windows ["self"] d_Cabinet_windows.scope := ⟨rfl, rfl, rfl, by decide +kernel, rfl, by decide +kernel, by decide +kernel⟩
theorem bi_Cabinet_windows (kV doc pm : Value) (an : Option Addr) (cdv ct : Value) (us : List Value) (hl : us.length = 1) : bindArgs (PySem.W.fnOf d_Cabinet_windows.name d_Cabinet_windows.qual d_Cabinet_windows.params d_Cabinet_windows.body d_Cabinet_windows.scope .none kV doc pm an cdv ct) ⟨us, []⟩ = pure ((["self"] : List Str).zip us) := by
  match us, hl with
  | [_], _ => rfl

def R_Cabinet_windows (K : PySem.W.Frag) (Ts : List Ty) (T : Ty) : Prop := ∃ (m : Int) (n st : Nat) (ws : List W), Ts = [tyCab K m n st ws] ∧ T = dat K (dWins ws)
theorem met_Cabinet_windows (G : Glb w K mg base) : C8.Met PP w K mg base 1 (cCab K) "windows" (SpT (R_Cabinet_windows K)) [] :=
  met_mk G 46 (d := d_Cabinet_windows) rfl rfl G.k_Cabinet G.m_Cabinet_windows rfl sc_Cabinet_windows (spT_len fun Ts T ⟨_, _, _, _, h, _⟩ => by rw [h]; rfl) bi_Cabinet_windows (fun f cdv A outer s H vs Q E hr hsp => by
    obtain ⟨M, Ts, T, hM, hv, ⟨m, n, st, ws, rfl, rfl⟩, hq⟩ := hsp
    obtain ⟨v1, rfl, h1⟩ := allT1 hv
    refine ⟨_, (pss_one (ps_ret (pe_callTy (T := "list") call_list_of (by rfl) G.f_list (by decide +kernel) (pa_cons (pe_fld (pv 0) rfl) pa_nil)))), ?_⟩
    exact sd_ret hM (ed_listOf (eg_fld (K := K) (T := dat K (dWins ws)) G.k_Cabinet G.n_Cabinet_window_list rfl (eg_var rfl h1)).ed) fun v H1 e h => hq v H1 e h)
abbrev N_window_named : List Str := ["cabinet", "name", "window"]
theorem sc_window_named : FnScope N_window_named ["cabinet", "name"] d_window_named.scope := ⟨rfl, rfl, rfl, by decide +kernel, rfl, by decide +kernel, by decide +kernel⟩
theorem bi_window_named (kV doc pm : Value) (an : Option Addr) (cdv ct : Value) (us : List Value) (hl : us.length = 2) : bindArgs (PySem.W.fnOf d_window_named.name d_window_named.qual d_window_named.params d_window_named.body d_window_named.scope .none kV doc pm an cdv ct) ⟨us, []⟩ = pure ((["cabinet", "name"] : List Str).zip us) := by
  match us, hl with
  | [_, _], _ => rfl

def R_window_named (K : PySem.W.Frag) (Ts : List Ty) (T : Ty) : Prop := ∃ (m : Int) (n st : Nat) (ws : List W) (nm : Str) (w : W), Ts = [tyCab K m n st ws, tS K nm] ∧ WM.Named ws nm w ∧ T = dat K (dWin w)
theorem cal_window_named (G : Glb w K mg base) : C8.Cal PP w K mg base 2 "window_named" (SpT (R_window_named K)) [] :=
  cal_mk G 36 (d := d_window_named) rfl rfl G.g_window_named rfl sc_window_named (spT_len fun Ts T ⟨_, _, _, _, _, _, h, _⟩ => by rw [h]; rfl) bi_window_named (fun f cdv A outer s H vs Q E hr hsp => by
    obtain ⟨M, Ts, T, hM, hv, ⟨m, n, st, ws, nm, u, rfl, hnm, rfl⟩, hq⟩ := hsp
    obtain ⟨v1, v2, rfl, h1, h2⟩ := allT2 hv
    refine ⟨_, (pss_cons (ps_for PassesOwn.never rfl (pi_list (C8.pe_mt0 (met_Cabinet_windows G) hr (by decide) (pv 0))) (pg_name (i := 2) sc_window_named.nd rfl (by first | exact Or.inl rfl | exact Or.inr rfl)) (pss_one (ps_if (pt_cmpR op_eq (pe_ix ix_tup (pv 2) pe_int (fun _ _ => rfl)) (pv 1) (nomark _)) (pss_one (ps_ret (pv 2))) pss_nil)))
      (pss_one (ps_ret pe_non))), ?_⟩
    refine s_forP hM (ei_ld (K := K) (src := ws) (f := dWin) (eg_meth (R := R_Cabinet_windows K) (eg_var (T := tyCab K m n st ws) rfl h1) rfl ega_nil ⟨m, n, st, ws, rfl, rfl⟩).ed) (fun i σ' H' => (∃ x, σ' = [some v1, some v2, x]) ∧ ∀ x ∈ ws.take i, x.name ≠ nm) (fun H1 e => ⟨⟨none, rfl⟩, by simp⟩) ?_ ?_
    · rintro H1 i x vx σ' H' H2 e e1 hi ⟨⟨x0, rfl⟩, hz⟩ e2 hx
      have e02 := (e.trans e1).trans e2
      have hmem := List.mem_of_getElem? hi
      have hx : Dp K (hide M H2) vx (dWin x) := hx
      refine sd_if (hM.ex e02) (et_test (ed_eqS (K := K) (s := x.name) (t := nm) (ed_ixT (ds := [.str x.name, .int x.src, .int x.tgt, .int x.fac, .int x.pane, .tuple (x.moves.map dMv)]) rfl (ed_var rfl hx) ed_int) (ed_var rfl (h2.mono (hide_ex e02))))) (fun hb H3 e3 => ?_) (fun hb H3 e3 => ?_)
      · simp at hb
        have hxu : x = u := hnm.2.2 x hmem hb
        refine sd_ret (hM.ex (e02.trans e3)) (ed_var (K := K) rfl (hx.mono (hide_ex e3))) fun v' H4 e4 h4 => hq v' H4 ((e02.trans e3).trans e4) ?_
        rw [← hxu]; exact h4
      · simp at hb
        refine ⟨(e1.trans e2).trans e3, ⟨_, rfl⟩, fun y hy => ?_⟩
        rw [List.take_add_one, hi] at hy
        rcases List.mem_append.mp hy with z | z
        · exact hz y z
        · simp at z
          subst z
          exact hb
    · rintro σ' H' e ⟨⟨x0, rfl⟩, hz⟩
      rw [List.take_length] at hz
      exact absurd hnm.2.1 (hz u hnm.1))
abbrev N_part_window : List Str := ["cabinet", "mark", "part", "readings", "window"]
theorem sc_part_window : FnScope N_part_window ["cabinet", "mark", "part", "readings"] d_part_window.scope := ⟨rfl, rfl, rfl, by decide +kernel, rfl, by decide +kernel, by decide +kernel⟩
theorem bi_part_window (kV doc pm : Value) (an : Option Addr) (cdv ct : Value) (us : List Value) (hl : us.length = 4) : bindArgs (PySem.W.fnOf d_part_window.name d_part_window.qual d_part_window.params d_part_window.body d_part_window.scope .none kV doc pm an cdv ct) ⟨us, []⟩ = pure ((["cabinet", "mark", "part", "readings"] : List Str).zip us) := by
  match us, hl with
  | [_, _, _, _], _ => rfl

def R_part_window (K : PySem.W.Frag) (Ts : List Ty) (T : Ty) : Prop := ∃ (m : Int) (n st : Nat) (ws : List W) (mk mk' : Nat) (nm : Str) (subs : List Pl) (rds : List Int) (w : W), Ts = [tyCab K m n st ws, tI K mk, dat K (dPlan (.look nm subs)), tV K rds] ∧
  WM.Named ws nm w ∧ w.moves[mk]? = some (some mk') ∧ (subs.length : Int) = w.pane ∧ rds.length ≠ 3 ∧ T = dat K (dWin w)
theorem cal_part_window (G : Glb w K mg base) : C8.Cal PP w K mg base 3 "part_window" (SpT (R_part_window K)) [] :=
  cal_mk G 37 (d := d_part_window) rfl rfl G.g_part_window rfl sc_part_window (spT_len fun Ts T ⟨_, _, _, _, _, _, _, _, _, _, h, _⟩ => by rw [h]; rfl) bi_part_window (fun f cdv A outer s H vs Q E hr hsp => by
    obtain ⟨M, Ts, T, hM, hv, ⟨m, n, st, ws, mk, mk', nm, subs, rds, u, rfl, hnm, hmk, hsl, hrl, rfl⟩, hq⟩ := hsp
    obtain ⟨v1, v2, v3, v4, rfl, h1, h2, h3, h4⟩ := allT4 hv
    have h3 : Dp K (hide M H) v3 (.tuple [.str nm, .list (subs.map dPlan)]) := by rw [← dPlan_look]; exact h3
    cases dp_int h2
    refine ⟨_, (pss_cons (ps_if (PW.pt (pw_or (pt_not (pt_val (pe_callB (id := "isinstance") call_isi (by rfl) G.f_isinstance (by decide +kernel) (pa_cons (pv 2) (pa_cons (pe_bltn (v := .ty "tuple") (by rfl) G.f_tuple (by decide +kernel) rfl) pa_nil))))) (pw_or (pt_cmpR op_ne (pe_callB (id := "len") call_len (by rfl) G.f_len (by decide +kernel) (pa_cons (pv 2) pa_nil)) pe_int (nomark _)) (pw_or1 (pt_cmpR op_eq (pe_callB (id := "len") call_len (by rfl) G.f_len (by decide +kernel) (pa_cons (pv 3) pa_nil)) (C8.pe_gc (by rfl) G.c_MAX_LOOKS) (nomark _)))))) (pss_one ps_never) pss_nil)
      (pss_cons (ps_set (i := 4) sc_part_window.nd rfl (by first | exact Or.inl rfl | exact Or.inr rfl) (pe_ifExp (pt_val (pe_callB (id := "isinstance") call_isi (by rfl) G.f_isinstance (by decide +kernel) (pa_cons (pe_ix ix_tup (pv 2) pe_int (fun _ _ => rfl)) (pa_cons (pe_bltn (v := .ty "str") (by rfl) G.f_str (by decide +kernel) rfl) pa_nil)))) (C8.pe_c (cal_window_named G) hr (by decide) (by rfl) (pa_cons (pv 0) (pa_cons (pe_ix ix_tup (pv 2) pe_int (fun _ _ => rfl)) pa_nil))) pe_non))
      (pss_cons (ps_if (PW.pt (pw_or (pt_cmpR op_isN1 (pv 4) pe_non (nomark _)) (pw_or1 (pt_cmpR op_isN1 (pe_ix ix_tup (pe_ix ix_tup (pv 4) pe_int (fun _ _ => rfl)) (pv 1) (fun _ _ => rfl)) pe_non (nomark _))))) (pss_one ps_never) pss_nil)
      (pss_cons (ps_if (PW.pt (pw_or (pt_not (pt_val (pe_callB (id := "isinstance") call_isi (by rfl) G.f_isinstance (by decide +kernel) (pa_cons (pe_ix ix_tup (pv 2) pe_int (fun _ _ => rfl)) (pa_cons (pe_bltn (v := .ty "list") (by rfl) G.f_list (by decide +kernel) rfl) pa_nil))))) (pw_or1 (pt_cmpR op_ne (pe_callB (id := "len") call_len (by rfl) G.f_len (by decide +kernel) (pa_cons (pe_ix ix_tup (pv 2) pe_int (fun _ _ => rfl)) pa_nil)) (pe_ix ix_tup (pv 4) pe_int (fun _ _ => rfl)) (nomark _))))) (pss_one ps_never) pss_nil)
      (pss_one (ps_ret (pv 4))))))), ?_⟩
    refine sd_if (b := false) hM ((et_or (et_not (et_B (ed_isi (K := K) (b := true) (n := "tuple") (ed_var rfl h3) rfl (by decide +kernel)))) fun _ => et_or (et_test (ed_neI (ed_lenU (ed_var rfl h3)) ed_int)) fun _ => et_test (ed_eqI (ed_lenU (ed_var rfl h4)) ed_int)).to ?_) (fun hb => by cases hb) fun _ H1 e1 => ?_
    · simp
      omega
    dsimp only [tNext]
    have h31 := h3.mono (hide_ex (M := M) e1)
    refine sg_set (hM.ex e1) (eg_if (b := true) (et_B (ed_isi (K := K) (b := true) (n := "str") (ed_ixT (d := .str nm) rfl (ed_var rfl h31) ed_int) rfl (by decide +kernel))) (fun _ => eg_call (R := R_window_named K) (ega_cons (eg_var (T := tyCab K m n st ws) rfl ((tyCab K m n st ws).up (hide_ex e1) h1)) (ega_d (ed_ixT (d := .str nm) rfl (ed_var rfl h31) ed_int) ega_nil)) ⟨m, n, st, ws, nm, u, rfl, hnm, rfl⟩) (fun hb => by cases hb)) fun v5 H2 e2 h5 => ?_
    have h5 : Dp K (hide M H2) v5 (dWin u) := h5
    dsimp only
    have e02 := e1.trans e2
    have hml : mk < u.moves.length := (List.getElem?_eq_some_iff.mp hmk).1
    have hmv : ED K M (tOp (rIxT K) (tOp (rIxT K) (tVar 4) (tC (.int 5))) (tVar 1)) [some v1, some (.int mk), some v3, some v4, some v5] H2 (.int (mk' : Int)) := ed_ixT (ds := u.moves.map dMv) (atI_nat' (by rw [List.getElem?_map, hmk]; rfl)) (ed_ixT (d := .tuple (u.moves.map dMv)) rfl (ed_var rfl h5) ed_int) (ed_varI rfl)
    refine sd_if (b := false) (hM.ex e02) ((et_or (et_test (ed_isN (K := K) (ed_var rfl h5))) fun _ => et_test (ed_isN hmv)).to rfl) (fun hb => by cases hb) fun _ H3 e3 => ?_
    dsimp only [tNext]
    have e03 := e02.trans e3
    have h33 := h3.mono (hide_ex (M := M) e03)
    have h53 := h5.mono (hide_ex (M := M) e3)
    refine sd_if (b := false) (hM.ex e03) ((et_or (et_not (et_B (ed_isi (K := K) (b := true) (n := "list") (ed_ixT (d := .list (subs.map dPlan)) rfl (ed_var rfl h33) ed_int) rfl (by decide +kernel)))) fun _ => et_test (ed_neI (ed_len (ed_ixT (d := .list (subs.map dPlan)) rfl (ed_var rfl h33) ed_int)) (ed_ixT (d := .int u.pane) rfl (ed_var rfl h53) ed_int))).to ?_) (fun hb => by cases hb) fun _ H4 e4 => ?_
    · simp
      omega
    dsimp only [tNext]
    exact sd_ret (hM.ex (e03.trans e4)) (ed_var (K := K) rfl (h53.mono (hide_ex e4))) fun v H5 e5 h => hq v H5 ((e03.trans e4).trans e5) h)
end
end WL
end
section
set_option Elab.async false
set_option linter.all false
set_option maxRecDepth 100000
set_option maxHeartbeats 4000000
/-! D13: check_part, branches, leaves. -/
namespace WL
open PySem PySem.Spec PyProof.Rows L2 Evl HeadW
theorem SpT.weak {R R' : List Ty → Ty → Prop} (h : ∀ Ts T, R' Ts T → R Ts T) (vs : List V) (H : Hp) (Q : VK) (E : XK) (p : SpT R' vs H Q E) : SpT R vs H Q E := by
  obtain ⟨M, Ts, T, h1, h2, h3, h4⟩ := p
  exact ⟨M, Ts, T, h1, h2, h _ _ h3, h4⟩
theorem ed_snoc {K : PySem.W.Frag} {M : List Addr} {σ : L2.St} {H : Hp} {ta tb : TE} {rds : List Int} {j : Int} (hl : rds.length ≤ 1000) (ha : ED K M ta σ H (dV rds)) (hb : ED K M tb σ H (.int j)) : ED K M (tOp (rCatA K) ta (tTup (tCons tb tNil))) σ H (dV (rds ++ [j])) :=
  EG.toV ((eg_catU (K := K) (Ts := rds.map fun a => tI K a) (Us := [tI K j]) (by simp; omega) (EG.ofV ha) (eg_tup (by simp) (ega_one hb.eg))).to (by simp))
section
variable {w : World} {K : PySem.W.Frag} {mg : Str → Option Value} {base : Heap}
/-- a def that is asked nothing -/
theorem cal_false (G : Glb w K mg base) (i : Nat) {d : He.DefD} (h : fn[i]? = some d) {x : Str} (hx : d.at_ = (x, none)) (hm : mg x = some (.ref (He.ga K x))) (hd : d.dvs K = []) {ps : List Str} (k : Nat) (R : List Ty → Ty → Prop) (hR : ∀ Ts T, ¬ R Ts T)
    (hb : ∀ (kV doc pm : Value) (an : Option Addr) (cdv ct : Value) (us : List Value), us.length = ps.length → bindArgs (PySem.W.fnOf d.name d.qual d.params d.body d.scope .none kV doc pm an cdv ct) ⟨us, []⟩ = pure (ps.zip us)) : C8.Cal PP w K mg base k x (SpT R) [] := by
  obtain ⟨fd, F⟩ := G.says.d.def_ i h
  rw [hd] at F
  rw [hx] at F
  exact ⟨He.ga K x, fd, ps, [], ⟨fun vs H Q E ⟨_, Ts, T, _, _, r, _⟩ => absurd r (hR Ts T), fun A outer s H args us vs Q E _ _ _ _ ⟨_, Ts, T, _, _, r, _⟩ => absurd r (hR Ts T)⟩, hm, F.kp, F.bindsN hb, .nil⟩
abbrev N_check_part : List Str := ["cabinet", "mark", "part", "readings", "window", "reading", "later"]
theorem sc_check_part : FnScope N_check_part ["cabinet", "mark", "part", "readings"] d_check_part.scope := ⟨rfl, rfl, rfl, by decide +kernel, rfl, by decide +kernel, by decide +kernel⟩
theorem bi_check_part (kV doc pm : Value) (an : Option Addr) (cdv ct : Value) (us : List Value) (hl : us.length = 4) : bindArgs (PySem.W.fnOf d_check_part.name d_check_part.qual d_check_part.params d_check_part.body d_check_part.scope .none kV doc pm an cdv ct) ⟨us, []⟩ = pure ((["cabinet", "mark", "part", "readings"] : List Str).zip us) := by
  match us, hl with
  | [_, _, _, _], _ => rfl

def R_check_part (K : PySem.W.Frag) : Nat → List Ty → Ty → Prop
  | 0, _, _ => False
  | d + 1, Ts, T => ∃ (m : Int) (n st : Nat) (ws : List W) (mk : Nat) (p : Pl) (rds : List Int), Ts = [tyCab K m n st ws, tI K mk, dat K (dPlan p), tV K rds] ∧ WM.PlanOk ws p mk d ∧ rds.length + d ≤ 3 ∧ (∀ w ∈ ws, w.pane ≤ 60) ∧ T = tN K
theorem isN_dPlan (nm : Str) (subs : List Pl) : isN (dPlan (.look nm subs)) = false := by rw [dPlan_look]; rfl
theorem cal_check_part (G : Glb w K mg base) : ∀ d, C8.Cal PP w K mg base (3 + d) "check_part" (SpT (R_check_part K d)) []
  | 0 => cal_false G 38 (d := d_check_part) (ps := ["cabinet", "mark", "part", "readings"]) rfl rfl G.g_check_part rfl 3 _ (fun _ _ h => h) bi_check_part
  | d + 1 => by
    have ih := cal_check_part G d
    refine cal_mk G 38 (d := d_check_part) rfl rfl G.g_check_part rfl sc_check_part (k := 3 + d) (spT_len fun Ts T ⟨_, _, _, _, _, _, _, h, _⟩ => by rw [h]; rfl) bi_check_part (fun f cdv A outer s H vs Q E hr hsp => ?_)
    obtain ⟨M, Ts, T, hM, hv, ⟨m, n, st, ws, mk, p, rds, rfl, hp, hl, hpn, rfl⟩, hq⟩ := hsp
    obtain ⟨v1, v2, v3, v4, rfl, h1, h2, h3, h4⟩ := allT4 hv
    cases dp_int h2
    refine ⟨_, (pss_cons (ps_if (pt_cmpR op_isN1 (pv 2) pe_non (nomark _)) (pss_one ps_retN) pss_nil)
      (pss_cons (ps_set (i := 4) sc_check_part.nd rfl (by first | exact Or.inl rfl | exact Or.inr rfl) (C8.pe_c (cal_part_window G) hr (by omega) (by rfl) (pa_cons (pv 0) (pa_cons (pv 1) (pa_cons (pv 2) (pa_cons (pv 3) pa_nil))))))
      (pss_one (ps_for PassesOwn.never rfl (pi_enum (by rfl) G.f_enumerate (pa_cons (pe_ix ix_tup (pv 2) pe_int (fun _ _ => rfl)) pa_nil)) (pg_tup rfl (pgs_cons (pg_name (i := 5) sc_check_part.nd rfl (by first | exact Or.inl rfl | exact Or.inr rfl)) (pgs_cons (pg_name (i := 6) sc_check_part.nd rfl (by first | exact Or.inl rfl | exact Or.inr rfl)) pgs_nil))) (pss_one (ps_expr (C8.pe_c ih hr (by omega) (by rfl) (pa_cons (pv 0) (pa_cons (pe_ix ix_tup (pe_ix ix_tup (pv 4) pe_int (fun _ _ => rfl)) (pv 1) (fun _ _ => rfl)) (pa_cons (pv 6) (pa_cons (pe_op op_catA (pv 3) (pe_tup (pa_cons (pv 5) pa_nil))) pa_nil))))))))))), ?_⟩
    cases hp with
    | none =>
      have h3 : Dp K (hide M H) v3 .none := by rw [← dPlan_none]; exact h3
      refine sd_if (b := true) hM ((et_test (ed_isN (K := K) (ed_var rfl h3))).to rfl) (fun _ H1 e1 => ?_) (fun hb => by cases hb)
      exact hq .non H1 e1 .non
    | @look nm subs _ u mk' d' hnm hmk hsl hsub =>
      have h3 : Dp K (hide M H) v3 (.tuple [.str nm, .list (subs.map dPlan)]) := by rw [← dPlan_look]; exact h3
      refine sd_if (b := false) hM ((et_test (ed_isN (K := K) (ed_var rfl h3))).to rfl) (fun hb => by cases hb) fun _ H1 e1 => ?_
      dsimp only [tNext]
      have hcab : ∀ H1, Ex H H1 → (tyCab K m n st ws).p v1 (hide M H1) := fun H1 e => (tyCab K m n st ws).up (hide_ex e) h1
      refine sd_set (K := K) (hM.ex e1) (ed_call (R := R_part_window K) (ega_cons (eg_var (T := tyCab K m n st ws) rfl (hcab H1 e1)) (ega_d (ed_varI rfl) (ega_d (d := dPlan (.look nm subs)) (ed_var rfl (by rw [dPlan_look]; exact h3.mono (hide_ex e1))) (ega_d (ed_var rfl (h4.mono (hide_ex e1))) ega_nil)))) ⟨m, n, st, ws, mk, mk', nm, subs, rds, u, rfl, hnm, hmk, hsl, by omega, rfl⟩) fun v5 H2 e2 h5 => ?_
      have h5 : Dp K (hide M H2) v5 (dWin u) := h5
      dsimp only
      have e02 := e1.trans e2
      refine s_forP (hM.ex e02) (ei_enum (K := K) (src := subs) (ty := fun p => dat K (dPlan p)) (ega_one ((EG.l (ed_ixT (K := K) (d := .list (subs.map dPlan)) rfl (ed_var rfl (h3.mono (hide_ex e02))) ed_int)).to (by rw [List.map_map]; rfl)))) (fun i σ' H' => ∃ x y, σ' = [some v1, some (.int mk), some v3, some v4, some v5, x, y]) (fun H3 e => ⟨none, none, rfl⟩) ?_ ?_
      · rintro H3 i ⟨sp, j⟩ x σ' H' H4 e3 e4 hi ⟨x0, y0, rfl⟩ e5 hx
        have e := ((e02.trans e3).trans e4).trans e5
        obtain ⟨q, xs, rfl, hs, hx⟩ := hx
        obtain ⟨y1, y2, rfl, hy1, hy2⟩ := allT2 hx
        cases dp_int hy1
        refine ⟨q, [_, _], rfl, ex_t (hide_sub _ _) hs, rfl, _, _, rfl, _, _, rfl, rfl, ?_⟩
        have hsp : subs[i]? = some sp ∧ j = i := by
          rw [List.getElem?_zipIdx] at hi
          cases hz : subs[i]? with
          | none => rw [hz] at hi; simp at hi
          | some z =>
            rw [hz] at hi
            simp at hi
            exact ⟨by rw [hi.1], hi.2.symm⟩
        have hspm := List.mem_of_getElem? hsp.1
        have h55 := h5.mono (hide_ex (M := M) ((e3.trans e4).trans e5))
        refine sg_drop (T := tN K) (hM.ex e) (eg_call (R := R_check_part K (d' + 1)) (ega_cons (eg_var (T := tyCab K m n st ws) rfl (hcab _ e)) (ega_d (d := .int (mk' : Int)) (ed_ixT (K := K) (ds := u.moves.map dMv) (atI_nat' (by rw [List.getElem?_map, hmk]; rfl)) (ed_ixT (d := .tuple (u.moves.map dMv)) rfl (ed_var rfl h55) ed_int) (ed_varI rfl)) (ega_cons (eg_var (T := dat K (dPlan sp)) rfl hy2)
          (ega_d (ed_snoc (by omega) (ed_var rfl (h4.mono (hide_ex e))) (ed_varI rfl)) ega_nil)))) ⟨m, n, st, ws, mk', sp, rds ++ [(j : Int)], rfl, hsub sp hspm, by simp; omega, hpn, rfl⟩) fun v H5 e6 h => ⟨((e4.trans e5).trans e6), _, _, rfl⟩
      · rintro σ' H' e ⟨x0, y0, rfl⟩
        dsimp only
        exact hq .non H' (e02.trans e) .non
end
end WL
end
section
set_option Elab.async false
set_option linter.all false
set_option maxRecDepth 100000
set_option maxHeartbeats 4000000
/-! D14: branches, leaves. -/
namespace WL
open PySem PySem.Spec PyProof.Rows L2 Evl HeadW
section
variable {K : PySem.W.Frag} {M : List Addr} {σ : L2.St} {H H' : Hp} {te : TE} {T : Ty} {D : Ends} {g : TG}
theorem g_tup4 {v : V} {d1 d2 d3 d4 : PyData} {i1 i2 i3 i4 : Nat} {Q : L2.St → Hp → Prop} (h : Dp K (hide M H) v (.tuple [d1, d2, d3, d4]))
    (k : ∀ x1 x2 x3 x4, Dp K (hide M H) x1 d1 → Dp K (hide M H) x2 d2 → Dp K (hide M H) x3 d3 → Dp K (hide M H) x4 d4 → Q ((((σ.set i1 (some x1)).set i2 (some x2)).set i3 (some x3)).set i4 (some x4)) H) :
    gTup K 4 (gCons (gName i1) (gCons (gName i2) (gCons (gName i3) (gCons (gName i4) gNil)))) v σ H Q := by
  obtain ⟨p, xs, rfl, hs, hx⟩ := dp_tup h
  obtain ⟨x1, x2, x3, x4, rfl, a1, a2, a3, a4⟩ := allT4 (AllT.of_dp hx)
  exact ⟨p, _, rfl, ex_t (hide_sub _ _) hs, rfl, _, _, rfl, _, _, rfl, _, _, rfl, _, _, rfl, rfl, k _ _ _ _ a1 a2 a3 a4⟩
theorem g_tup6 {v : V} {d1 d2 d3 d4 d5 d6 : PyData} {i1 i2 i3 i4 i5 i6 : Nat} {Q : L2.St → Hp → Prop} (h : Dp K (hide M H) v (.tuple [d1, d2, d3, d4, d5, d6]))
    (k : ∀ x1 x2 x3 x4 x5 x6, Dp K (hide M H) x1 d1 → Dp K (hide M H) x2 d2 → Dp K (hide M H) x3 d3 → Dp K (hide M H) x4 d4 → Dp K (hide M H) x5 d5 → Dp K (hide M H) x6 d6 → Q ((((((σ.set i1 (some x1)).set i2 (some x2)).set i3 (some x3)).set i4 (some x4)).set i5 (some x5)).set i6 (some x6)) H) :
    gTup K 6 (gCons (gName i1) (gCons (gName i2) (gCons (gName i3) (gCons (gName i4) (gCons (gName i5) (gCons (gName i6) gNil)))))) v σ H Q := by
  obtain ⟨p, xs, rfl, hs, hx⟩ := dp_tup h
  obtain ⟨x1, x2, x3, x4, x5, x6, rfl, a1, a2, a3, a4, a5, a6⟩ := allT6 (AllT.of_dp hx)
  exact ⟨p, _, rfl, ex_t (hide_sub _ _) hs, rfl, _, _, rfl, _, _, rfl, _, _, rfl, _, _, rfl, _, _, rfl, _, _, rfl, rfl, k _ _ _ _ _ _ a1 a2 a3 a4 a5 a6⟩
theorem et_notN_ref {i : Nat} {a : Addr} (h : σ[i]? = some (some (.ref a))) : ET M (tTest (tOp rNotN (tVar i) (tC .non))) σ H true := fun _ H1 _ _ q => ⟨.ref a, h, rfl, true, rfl, q H1 (Ex.refl H1)⟩
/-- a list that was made here -/
def tyLN (Ts : List Ty) : Ty := ⟨fun v H => ∃ a xs, v = .ref a ∧ H a = some (.lst xs) ∧ AllT H xs Ts, fun e ⟨a, xs, h1, h2, h3⟩ => ⟨a, xs, h1, e a _ h2, h3.up e⟩⟩
theorem tyLN_l {Ts : List Ty} {v : V} (h : (tyLN Ts).p v H) : (tyL K Ts).p v H := by
  obtain ⟨a, xs, h1, h2, h3⟩ := h
  exact ⟨a, xs, h1, sq_of h2, h3⟩
theorem eg_lstN {ta : TA} {Ts : List Ty} (hl : Ts.length ≤ 100000) (h : EGA M ta σ H Ts) : EG M (tLst ta) σ H (tyNew H (tyLN Ts)) := fun hM H1 e _ q =>
  h hM H1 e _ fun vs H2 e2 h2 => ⟨by rw [h2.len]; exact sz_of hl, fun p hp => q _ _ (e2.trans (Ex.new hp)) ⟨⟨p, vs, rfl, by rw [hide_out ((hM.ex (e.trans e2)).new hp)]; exact upd_same, h2.up (new_ex hp)⟩, p, rfl, none_of (e.trans e2) hp⟩⟩
/-- name = list(xs), the copy to change -/
theorem s_listM {i : Nat} {Ts : List Ty} (hM : MOk M H) (h : EG M te σ H (tyL K Ts)) (k : ∀ p xs H1, Ex H H1 → H1 p = none → AllT (hide M H1) xs Ts → D.nx (σ.set i (some (.ref p))) (upd H1 p (.lst xs))) :
    tAsg (tCB (fun xs H Q => ∃ p ys, xs = [.ref p] ∧ (SqL K H p ys ∨ SqT K H p ys) ∧ ∀ l, H l = none → Q (.ref l) (upd H l (.lst ys))) (tCons te tNil)) (gName i) D σ H :=
  h hM H (Ex.refl H) _ fun v H1 e ⟨a, xs, ev, hs, hx⟩ => ⟨a, xs, by rw [ev], .inl (ex_l (hide_sub _ _) hs), fun l hl => k l xs H1 e hl hx⟩
theorem s_setL {i j k : Nat} {l : Addr} {xs : List V} (hM : MOk M H) (hl : H l = some (.lst xs)) (hi : σ[i]? = some (some (.ref l))) (hj : σ[j]? = some (some (.int (k : Int)))) (hk : k < xs.length) (h : EG M te σ H T)
    (q : ∀ v H1, Ex H H1 → T.p v (hide M H1) → D.nx σ (upd H1 l (.lst (xs.set k v)))) : tAsg te (gSub (tVar i) (tVar j) rSetL) D σ H :=
  h hM H (Ex.refl H) _ fun v H1 e hv => ⟨.ref l, hi, .int k, hj, l, xs, k, k, rfl, rfl, e l _ hl, by unfold ixN; rw [if_pos (by omega), if_pos (by omega)]; rfl, q v H1 e hv⟩
theorem s_extend {i : Nat} {l : Addr} {xs : List V} (hM : MOk M H) (hl : H l = some (.lst xs)) (hs : σ[i]? = some (some (.ref l))) (h : EG M te σ H T)
    (k : ∀ v H1, Ex H H1 → T.p v (hide M H1) → ∃ b zs, v = .ref b ∧ H1 b = some (.lst zs) ∧ xs.length + zs.length ≤ 200000 ∧ D.nx σ (upd H1 l (.lst (xs ++ zs)))) : tDrop (tBM K "list" rExtend (tVar i) (tCons te tNil)) D σ H :=
  ⟨.ref l, hs, tyV_l hl, h hM H (Ex.refl H) _ fun v H1 e hv => by
    obtain ⟨b, zs, ev, hb, hz, q⟩ := k v H1 e hv
    exact ⟨l, b, xs, zs, rfl, by rw [ev], e l _ hl, hb, by rw [sizeLine_eq]; omega, q⟩⟩
end
section
variable {w : World} {K : PySem.W.Frag} {mg : Str → Option Value} {base : Heap}
def tyLeaf (K : PySem.W.Frag) (m : Int) (n : Nat) (lf : WM.Leaf) : Ty := tyU K [tV K lf.1, tyCoset K m n lf.2.1 lf.2.2]
abbrev N_branches : List Str := ["cabinet", "mark", "matrix", "coset", "part", "readings", "name", "source", "target", "factor", "pane", "moves", "later", "found", "reading", "rest", "left"]
theorem sc_branches : FnScope N_branches ["cabinet", "mark", "matrix", "coset", "part", "readings"] d_branches.scope := ⟨rfl, rfl, rfl, by decide +kernel, rfl, by decide +kernel, by decide +kernel⟩
theorem bi_branches (kV doc pm : Value) (an : Option Addr) (cdv ct : Value) (us : List Value) (hl : us.length = 6) : bindArgs (PySem.W.fnOf d_branches.name d_branches.qual d_branches.params d_branches.body d_branches.scope .none kV doc pm an cdv ct) ⟨us, []⟩ = pure ((["cabinet", "mark", "matrix", "coset", "part", "readings"] : List Str).zip us) := by
  match us, hl with
  | [_, _, _, _, _, _], _ => rfl

def R_branches (K : PySem.W.Frag) : Nat → List Ty → Ty → Prop
  | 0, _, _ => False
  | d + 1, Ts, T => ∃ (m : Int) (n st : Nat) (ws : List W) (mk : Nat) (MM : List (List Int)) (TL : WM.Pv) (b : List Int) (p : Pl) (pre : List Int), Ts = [tyCab K m n st ws, tI K mk, dat K (dL MM), tyCoset K m n TL b, dat K (dPlan p), tV K pre] ∧
    2 ≤ m ∧ m ≤ 60 ∧ 1 ≤ n ∧ n ≤ 12 ∧ (∀ w ∈ ws, WM.WinOk m n st w) ∧ WM.Mat m n MM ∧ WM.Cos m n TL b ∧ WM.PlanOk ws p mk d ∧ pre.length + d ≤ 100 ∧ wid p ≤ 1000 ∧
    T = tyEx (fun res : List WM.Leaf => WM.BrOk ws m n (WM.Mem m n TL b) p mk MM pre res ∧ res.length ≤ wid p) (fun res => tyLN (res.map (tyLeaf K m n)))
theorem wid_le {subs : List Pl} {s : Pl} (h : s ∈ subs) : wid s ≤ (subs.map wid).sum := by
  induction subs with
  | nil => simp at h
  | cons a l ih =>
    simp only [List.map_cons, List.sum_cons]
    rcases List.mem_cons.mp h with z | z
    · rw [z]; omega
    · have := ih z; omega
theorem wid_take (subs : List Pl) (i : Nat) : ((subs.take i).map wid).sum ≤ (subs.map wid).sum := by
  induction subs generalizing i with
  | nil => simp
  | cons a l ih =>
    cases i with
    | zero => simp
    | succ i =>
      simp only [List.take_succ_cons, List.map_cons, List.sum_cons]
      have := ih i
      omega
theorem zipIdx_at {α : Type} {l : List α} {a : α} {i j : Nat} (h : l.zipIdx[i]? = some (a, j)) : l[i]? = some a ∧ j = i := by
  rw [List.getElem?_zipIdx] at h
  cases hz : l[i]? with
  | none => rw [hz] at h; simp at h
  | some z =>
    rw [hz] at h
    simp at h
    exact ⟨by rw [h.1], h.2.symm⟩
theorem cal_falseF (G : Glb w K mg base) (i : Nat) {d : He.DefD} (h : fn[i]? = some d) {x : Str} (hx : d.at_ = (x, none)) (hm : mg x = some (.ref (He.ga K x))) (hd : d.dvs K = []) {ps : List Str} (k : Nat) (R : List Ty → Ty → Prop) (hR : ∀ Ts T, ¬ R Ts T)
    (hb : ∀ (kV doc pm : Value) (an : Option Addr) (cdv ct : Value) (us : List Value), us.length = ps.length → bindArgs (PySem.W.fnOf d.name d.qual d.params d.body d.scope .none kV doc pm an cdv ct) ⟨us, []⟩ = pure (ps.zip us)) : C8.Cal PP w K mg base k x (SpF R) [] := by
  obtain ⟨fd, F⟩ := G.says.d.def_ i h
  rw [hd] at F
  rw [hx] at F
  exact ⟨He.ga K x, fd, ps, [], ⟨fun vs H Q E ⟨_, Ts, T, _, _, r, _⟩ => absurd r (hR Ts T), fun A outer s H args us vs Q E _ _ _ _ ⟨_, Ts, T, _, _, r, _⟩ => absurd r (hR Ts T)⟩, hm, F.kp, F.bindsN hb, .nil⟩
theorem cal_branches (G : Glb w K mg base) : ∀ d, C8.Cal PP w K mg base (9 + d) "branches" (SpF (R_branches K d)) []
  | 0 => cal_falseF G 39 (d := d_branches) (ps := ["cabinet", "mark", "matrix", "coset", "part", "readings"]) rfl rfl G.g_branches rfl 9 _ (fun _ _ h => h) bi_branches
  | d + 1 => by
    have ih := cal_branches G d
    refine cal_mk G 39 (d := d_branches) rfl rfl G.g_branches rfl sc_branches (k := 9 + d) (spF_len fun Ts T ⟨_, _, _, _, _, _, _, _, _, _, h, _⟩ => by rw [h]; rfl) bi_branches (fun f cdv A outer s H vs Q E hr hsp => ?_)
    obtain ⟨M, Ts, T, hM, hv, ⟨m, n, st, ws, mk, MM, TL, b, p, pre, rfl, hm, hm60, hn1, hn, hws, hMM, hc, hp, hl, hwid, rfl⟩, hq⟩ := hsp
    obtain ⟨v1, v2, v3, v4, v5, v6, rfl, h1, h2, h3, h4, h5, h6⟩ := allT6 hv
    cases dp_int h2
    have hm0 : 0 < m := by omega
    refine ⟨_, (pss_cons (ps_if (pt_cmpR op_isN1 (pv 4) pe_non (nomark _)) (pss_one (ps_ret (pe_lst (pa_cons (pe_tup (pa_cons (pv 5) (pa_cons (pv 3) pa_nil))) pa_nil)))) pss_nil)
      (pss_cons (ps_asg (C8.pe_c (cal_window_named G) hr (by omega) (by rfl) (pa_cons (pv 0) (pa_cons (pe_ix ix_tup (pv 4) pe_int (fun _ _ => rfl)) pa_nil))) (pg_tup rfl (pgs_cons (pg_name (i := 6) sc_branches.nd rfl (by first | exact Or.inl rfl | exact Or.inr rfl)) (pgs_cons (pg_name (i := 7) sc_branches.nd rfl (by first | exact Or.inl rfl | exact Or.inr rfl)) (pgs_cons (pg_name (i := 8) sc_branches.nd rfl (by first | exact Or.inl rfl | exact Or.inr rfl)) (pgs_cons (pg_name (i := 9) sc_branches.nd rfl (by first | exact Or.inl rfl | exact Or.inr rfl)) (pgs_cons (pg_name (i := 10) sc_branches.nd rfl (by first | exact Or.inl rfl | exact Or.inr rfl)) (pgs_cons (pg_name (i := 11) sc_branches.nd rfl (by first | exact Or.inl rfl | exact Or.inr rfl)) pgs_nil))))))))
      (pss_cons (ps_set (i := 12) sc_branches.nd rfl (by first | exact Or.inl rfl | exact Or.inr rfl) (pe_callTy (T := "list") call_list_of (by rfl) G.f_list (by decide +kernel) (pa_cons (pv 2) pa_nil)))
      (pss_cons (ps_asg (C8.pe_c (cal_combine G) hr (by omega) (by rfl) (pa_cons (pe_ix ix_list (pv 2) (pv 8) (fun _ _ => rfl)) (pa_cons pe_int (pa_cons (pe_ix ix_list (pv 2) (pv 7) (fun _ _ => rfl)) (pa_cons (pv 9) (pa_cons (C8.pe_mt0 (met_Cabinet_modulus G) hr (by omega) (pv 0)) pa_nil)))))) (pg_sub (pv 12) (pv 8) set_list))
      (pss_cons (ps_set (i := 13) sc_branches.nd rfl (by first | exact Or.inl rfl | exact Or.inr rfl) (pe_lst pa_nil))
      (pss_cons (ps_for PassesOwn.never rfl (pi_enum (by rfl) G.f_enumerate (pa_cons (pe_ix ix_tup (pv 4) pe_int (fun _ _ => rfl)) pa_nil)) (pg_tup rfl (pgs_cons (pg_name (i := 14) sc_branches.nd rfl (by first | exact Or.inl rfl | exact Or.inr rfl)) (pgs_cons (pg_name (i := 15) sc_branches.nd rfl (by first | exact Or.inl rfl | exact Or.inr rfl)) pgs_nil))) (pss_cons (ps_set (i := 16) sc_branches.nd rfl (by first | exact Or.inl rfl | exact Or.inr rfl) (C8.pe_mt (met_Coset_restricted G) hr (by omega) (pv 3) (pa_cons (pe_ix ix_list (pv 2) (pv 7) (fun _ _ => rfl)) (pa_cons (pv 10) (pa_cons (pv 14) pa_nil)))))
      (pss_one (ps_if (pt_cmpR op_notN1 (pv 16) pe_non (nomark _)) (pss_one (ps_expr (pe_bm PySem.F.plainAttrs_list PySem.F.slot_list_extend PySem.F.type_list_extend mt_extend (pv 13) (pa_cons (C8.pe_c ih hr (by omega) (by rfl) (pa_cons (pv 0) (pa_cons (pe_ix ix_tup (pv 11) (pv 1) (fun _ _ => rfl)) (pa_cons (pv 12) (pa_cons (pv 16) (pa_cons (pv 15) (pa_cons (pe_op op_catA (pv 5) (pe_tup (pa_cons (pv 14) pa_nil))) pa_nil))))))) pa_nil)))) pss_nil))))
      (pss_one (ps_ret (pv 13))))))))), ?_⟩
    cases hp with
    | none =>
      have h5 : Dp K (hide M H) v5 .none := by rw [← dPlan_none]; exact h5
      refine sd_if (b := true) hM ((et_test (ed_isN (K := K) (ed_var rfl h5))).to rfl) (fun _ H1 e1 => ?_) (fun hb => by cases hb)
      refine sg_ret (T := tyNew H1 (tyLN [tyLeaf K m n (pre, TL, b)])) (hM.ex e1) (eg_lstN (by simp) (ega_one (eg_tup (K := K) (by simp) (ega_d (ed_var rfl (h6.mono (hide_ex e1))) (ega_one (eg_var (T := tyCoset K m n TL b) rfl ((tyCoset K m n TL b).up (hide_ex e1) h4))))))) fun v H2 e2 h => hq v H2 (e1.trans e2) ⟨[(pre, TL, b)], ⟨WM.BrOk.none hc, by simp [wid]⟩, h.1⟩ (h.2.back e1)
    | @look nm subs _ u mk' d' hnm hmk hsl hsub =>
      have h5 : Dp K (hide M H) v5 (.tuple [.str nm, .list (subs.map dPlan)]) := by rw [← dPlan_look]; exact h5
      have U := hws u hnm.1
      rw [wid_look] at hwid
      refine sd_if (b := false) hM ((et_test (ed_isN (K := K) (ed_var rfl h5))).to rfl) (fun hb => by cases hb) fun _ H1 e1 => ?_
      dsimp only [tNext]
      have hcab : ∀ H1, Ex H H1 → (tyCab K m n st ws).p v1 (hide M H1) := fun H1 e => (tyCab K m n st ws).up (hide_ex e) h1
      refine sg_bind (hM.ex e1) (eg_call (R := R_window_named K) (ega_cons (eg_var (T := tyCab K m n st ws) rfl (hcab H1 e1)) (ega_d (ed_ixT (K := K) (d := .str nm) rfl (ed_var rfl (h5.mono (hide_ex e1))) ed_int) ega_nil)) ⟨m, n, st, ws, nm, u, rfl, hnm, rfl⟩) fun vu H2 e2 hvu => ?_
      refine g_tup6 (K := K) hvu fun x1 x2 x3 x4 x5 x6 _ hx2 hx3 hx4 hx5 hx6 => ?_
      cases dp_int hx2
      cases dp_int hx3
      cases dp_int hx4
      cases dp_int hx5
      dsimp only
      have e02 := e1.trans e2
      -- the matrix behind the look
      refine s_listM (hM.ex e02) (EG.l (ed_var (K := K) rfl (h3.mono (hide_ex e02)))) fun p xs H3 e3 hp hxs => ?_
      dsimp only
      have e03 := e02.trans e3
      have hp0 : H p = none := fresh_back e03 hp
      have hpM : p ∉ M := (hM.ex e03).new hp
      have f3 : Fr [] M H (p :: M) (upd H3 p (.lst xs)) := ((Fr.refl hM).gex e03).new hp
      have hsub1 : ∀ a ∈ M, a ∈ p :: M := fun a ha => by simp [ha]
      have hxl : xs.length = n := by rw [hxs.len]; simp [hMM.len]
      have hR := hMM.vec U.tgt
      have hS := hMM.vec U.src
      have h33 := h3.mono f3.vis
      refine s_setL f3.ok upd_same rfl rfl (by rw [hxl]; exact U.tgt) (eg_call (R := R_combine K) (ega_d (d := dV (WM.rowAt MM u.tgt)) (ed_ixL (K := K) (ds := MM.map dV) (atI_nat' (by rw [List.getElem?_map, WM.rowAt_some (by rw [hMM.len]; exact U.tgt)]; rfl)) (ed_var rfl h33) (ed_varI rfl)) (ega_d ed_int (ega_d (d := dV (WM.rowAt MM u.src)) (ed_ixL (K := K) (ds := MM.map dV) (atI_nat' (by rw [List.getElem?_map, WM.rowAt_some (by rw [hMM.len]; exact U.src)]; rfl)) (ed_var rfl h33) (ed_varI rfl))
        (ega_d (ed_varI rfl) (ega_cons (eg_meth (R := R_Cabinet_modulus K) (eg_var (T := tyCab K m n st ws) rfl ((tyCab K m n st ws).up f3.vis h1)) rfl ega_nil ⟨m, n, st, ws, rfl, rfl⟩) ega_nil))))) ⟨_, 1, _, _, m, rfl, vec_sm hR hm0 (by omega) (by omega), vec_sm hS hm0 (by omega) (by omega), hm0, rfl⟩) fun vr H4 e4 hvr => ?_
      have f4 := ((f3.gex e4).upd (a := p) (o := .lst (xs.set u.tgt vr)) (by simp) (.inr hp0)).back hsub1
      have hlat : Dp K (hide M (upd H4 p (.lst (xs.set u.tgt vr)))) (.ref p) (dL (WM.later m u MM)) := by
        refine .lst (sq_of (by rw [hide_out hpM]; exact upd_same)) ?_
        have hx4 : AllT (hide (p :: M) H4) xs ((MM.map dV).map (dat K)) := (hxs.up (hide_cons hp)).up (((by rw [← hide_upd (M := p :: M) (a := p) (o := .lst xs) (H := H3) (by simp)]; exact hide_ex e4 : Ex (hide (p :: M) H3) (hide (p :: M) H4))))
        have := (AllT.set u.tgt hx4 (T := dat K (dV (WM.comb m 1 (WM.rowAt MM u.tgt) u.fac (WM.rowAt MM u.src)))) hvr).up (hide_less (H := H4) hsub1)
        have h2 : Ex (hide M H4) (hide M (upd H4 p (.lst (xs.set u.tgt vr)))) ∨ True := .inr trivial
        have h3 : AllT (hide (p :: M) (upd H4 p (.lst (xs.set u.tgt vr)))) (xs.set u.tgt vr) (((MM.map dV).map (dat K)).set u.tgt (dat K (dV (WM.comb m 1 (WM.rowAt MM u.tgt) u.fac (WM.rowAt MM u.src))))) := by
          rw [hide_upd (by simp)]
          exact AllT.set u.tgt hx4 hvr
        have h4 := h3.up (hide_less hsub1)
        refine AllT.dp ?_
        rw [WM.later, List.map_set, List.map_set]
        exact h4
      have e04 : Ex H (upd H4 p (.lst (xs.set u.tgt vr))) := f4.out
      have hmv4 := hx6.mono (hide_ex (M := M) e3)
      have hmoves : Dp K (hide M (upd H4 p (.lst (xs.set u.tgt vr)))) x6 (.tuple (u.moves.map dMv)) := by
        have z : Ex (hide M H3) (hide (p :: M) (upd H4 p (.lst (xs.set u.tgt vr)))) := by
          rw [hide_upd (by simp)]
          exact (hide_cons hp).trans (by rw [← hide_upd (M := p :: M) (a := p) (o := .lst xs) (H := H3) (by simp)]; exact hide_ex e4)
        exact (hmv4.mono z).mono (hide_less hsub1)
      generalize upd H4 p (.lst (xs.set u.tgt vr)) = H5 at f4 hlat e04 hmoves
      dsimp only
      refine s_new0 fun q hq0 => ?_
      dsimp only
      have hqH : H q = none := fresh_back e04 hq0
      have hqM : q ∉ M := f4.ok.new hq0
      have hsub2 : ∀ a ∈ M, a ∈ q :: M := fun a ha => by simp [ha]
      have f6 := f4.new (o := .lst []) hq0
      have ex56 : Ex (hide M H5) (hide (q :: M) (upd H5 q (.lst []))) := by rw [hide_upd (by simp)]; exact hide_cons hq0
      refine s_for f6.ok (ei_enum (K := K) (src := subs) (ty := fun p => dat K (dPlan p)) (ega_one ((EG.l (ed_ixT (K := K) (d := .list (subs.map dPlan)) rfl (ed_var rfl (h5.mono f6.vis)) ed_int)).to (by rw [List.map_map]; rfl)))) (q :: M)
        (fun H1 i σ' H' => ∃ xs res y14 y15 y16, σ' = [some v1, some (.int mk), some v3, some v4, some v5, some v6, some x1, some (.int u.src), some (.int u.tgt), some (.int u.fac), some (.int u.pane), some x6, some (.ref p), some (.ref q), y14, y15, y16] ∧ Fr [] M H (q :: M) H' ∧ Ex (hide (q :: M) H1) (hide (q :: M) H') ∧ H' q = some (.lst xs) ∧
          AllT (hide (q :: M) H') xs (res.map (tyLeaf K m n)) ∧ WM.BrOk ws m n (fun x => WM.Mem m n TL b x ∧ WM.rdg m MM u x < i) (.look nm subs) mk MM pre res ∧ res.length ≤ ((subs.take i).map wid).sum)
        (fun H1 i σ' H' e ⟨xs, res, _, _, _, _, p1, p2, _⟩ => ⟨p2, p1.ok⟩) (fun H1 e => ⟨[], [], none, none, none, rfl, f6.gex e, Ex.refl _, e q _ upd_same, .nil, WM.BrOk.nil fun x hx => ?_, by simp⟩) ?_ ?_
      · have : 0 ≤ WM.rdg m MM u x := Int.emod_nonneg _ (by have := U.pane.1; omega)
        have := hx.2
        omega
      · rintro H1 i ⟨sp, j⟩ x σ' H' H7 e hi ⟨xs, res, y14, y15, y16, rfl, fr, ex1, hqx, hxs, hbr, hrl⟩ e7 hx
        obtain ⟨t, zs, rfl, hs, hx⟩ := hx
        obtain ⟨y1, y2, rfl, hy1, hy2⟩ := allT2 hx
        cases dp_int hy1
        obtain ⟨hi, rfl⟩ := zipIdx_at hi
        have hspm := List.mem_of_getElem? hi
        have hil : j < subs.length := (List.getElem?_eq_some_iff.mp hi).1
        refine ⟨t, [_, _], rfl, ex_t (hide_sub _ _) hs, rfl, _, _, rfl, _, _, rfl, rfl, ?_⟩
        dsimp only
        have f7 := fr.gex e7
        have exq : Ex (hide (q :: M) (upd H5 q (.lst []))) (hide (q :: M) H7) := (hide_ex e).trans (ex1.trans (hide_ex e7))
        have ht1 : subs.take (j + 1) = subs.take j ++ [sp] := by rw [List.take_add_one, hi]; rfl
        have hsum : ((subs.take (j + 1)).map wid).sum = ((subs.take j).map wid).sum + wid sp := by rw [ht1]; simp
        have hk : ∀ x, (u.pane ∣ WM.dot (WM.rowAt MM u.src) (WM.at_ x) - (j : Int)) ↔ WM.rdg m MM u x = j := fun x => WM.mod_dvd U.pane.1 ⟨by omega, by omega⟩
        refine sg_set f7.ok (eg_meth (R := R_Coset_restricted K) (eg_var (T := tyCoset K m n TL b) rfl ((tyCoset K m n TL b).up f7.vis h4)) rfl (ega_d (d := dV (WM.rowAt MM u.src)) (ed_ixL (K := K) (ds := MM.map dV) (atI_nat' (by rw [List.getElem?_map, WM.rowAt_some (by rw [hMM.len]; exact U.src)]; rfl)) (ed_var rfl (h3.mono f7.vis)) (ed_varI rfl)) (ega_d (ed_varI rfl) (ega_d (ed_varI rfl) ega_nil)))
          ⟨m, n, TL, b, _, u.pane, (j : Int), rfl, hm, hm60, hn1, hn, hc, hS, U.dvd, U.pane.1, rfl⟩) fun vl H8 e8 hvl => ?_
        dsimp only
        have f8 := f7.gex e8
        have exq8 := exq.trans (hide_ex (M := q :: M) e8)
        rcases hvl with ⟨rfl, hno⟩ | ⟨fs, ⟨TL', b', hc', hmem', rfl⟩, hcos⟩
        · refine sd_if (b := false) f8.ok ((et_test (ed_notN (K := K) (d1 := .none) (ed_var rfl .non))).to rfl) (fun hb => by cases hb) fun _ H9 e9 => ?_
          have e79 := (e7.trans e8).trans e9
          have step := WM.BrOk.step hm0 hMM U hnm hmk hi hbr (WM.BrOk.nil (S := fun x => WM.Mem m n TL b x ∧ WM.rdg m MM u x = j) fun x hx => hno x hx.1 ((hk x).mpr hx.2))
          refine ⟨xs, res, _, _, _, rfl, f8.gex e9, ex1.trans (hide_ex e79), e79 q _ hqx, hxs.up (hide_ex e79), by simpa using step, by rw [hsum]; omega⟩
        · have hcos' := hcos
          obtain ⟨z, dz, wz, rfl, _⟩ := hcos'
          refine sd_if (b := true) f8.ok (et_notN_ref rfl) (fun _ H9 e9 => ?_) (fun hb => by cases hb)
          have f9 := f8.gex e9
          have exq9 := ex56.trans (exq8.trans (hide_ex (M := q :: M) e9))
          have e79 := (e7.trans e8).trans e9
          have hws' := wid_le hspm
          refine s_extend f9.ok (e79 q _ hqx) rfl (eg_callF (R := R_branches K (d' + 1)) (ega_cons (eg_var (T := tyCab K m n st ws) rfl ((tyCab K m n st ws).up f9.vis h1)) (ega_d (d := .int (mk' : Int)) (ed_ixT (K := K) (ds := u.moves.map dMv) (atI_nat' (by rw [List.getElem?_map, hmk]; rfl)) (ed_var rfl (hmoves.mono exq9)) (ed_varI rfl)) (ega_d (ed_var rfl (hlat.mono exq9)) (ega_cons (eg_var (T := tyCoset K m n TL' b') rfl ((tyCoset K m n TL' b').up (hide_ex e9) hcos))
            (ega_cons (eg_var (T := dat K (dPlan sp)) rfl (Dp.mono hy2 (hide_ex (e8.trans e9)))) (ega_d (ed_snoc (by omega) (ed_var rfl (h6.mono f9.vis)) (ed_varI rfl)) ega_nil)))))) ⟨m, n, st, ws, mk', WM.later m u MM, TL', b', sp, pre ++ [(j : Int)], rfl, hm, hm60, hn1, hn, hws, WM.later_mat hm0 hMM U.src U.tgt, hc', hsub sp hspm, by simp; omega, by omega, rfl⟩) fun v HA eA ⟨⟨res', ⟨hbr', hrl'⟩, b2, zs, ev, hb2, hzs⟩, _⟩ => ?_
          have hxl1 : xs.length = res.length := by rw [hxs.len, List.length_map]
          have hzl1 : zs.length = res'.length := by rw [hzs.len, List.length_map]
          have hwt := wid_take subs j
          refine ⟨b2, zs, ev, hide_sub _ _ _ _ hb2, by omega, xs ++ zs, res ++ res', _, _, _, rfl, (f9.gex eA).upd (by simp) (.inr hqH), ?_, upd_same, ?_, ?_, by rw [List.length_append, hsum]; omega⟩
          · rw [hide_upd (by simp)]
            exact ex1.trans (hide_ex (e79.trans eA))
          · rw [hide_upd (by simp), List.map_append]
            exact (hxs.up (hide_ex (e79.trans eA))).app hzs
          · exact WM.BrOk.step hm0 hMM U hnm hmk hi hbr (hbr'.same fun x => by rw [hmem' x, hk x])
      · rintro H1 σ' H' e ⟨xs, res, y14, y15, y16, rfl, fr, ex1, hqx, hxs, hbr, hrl⟩
        rw [List.length_zipIdx] at hrl hbr
        rw [List.take_length] at hrl
        dsimp only
        have hvis : (tyLN (res.map (tyLeaf K m n))).p (.ref q) (hide M H') := ⟨q, xs, rfl, by rw [hide_out hqM]; exact hqx, hxs.up (hide_less hsub2)⟩
        exact sg_ret (T := tyNew H (tyLN (res.map (tyLeaf K m n)))) (fr.back hsub2).ok (eg_var rfl ⟨hvis, q, rfl, hqH⟩) fun v H2 e2 h => hq v H2 (fr.out.trans e2) ⟨res, ⟨WM.BrOk.look hm0 U.pane.1 hsl hbr, by rw [wid_look]; exact hrl⟩, h.1⟩ h.2
end
end WL
end
section
set_option Elab.async false
set_option linter.all false
set_option maxRecDepth 100000
set_option maxHeartbeats 4000000
/-! D15: leaves, is_name, are_moves, is_window. -/
namespace WL
open PySem PySem.Spec PyProof.Rows L2 Evl HeadW
section
variable {w : World} {K : PySem.W.Frag} {mg : Str → Option Value} {base : Heap}
abbrev N_leaves : List Str := ["cabinet", "mark", "coset", "plan"]
theorem sc_leaves : FnScope N_leaves ["cabinet", "mark", "coset", "plan"] d_leaves.scope := ⟨rfl, rfl, rfl, by decide +kernel, rfl, by decide +kernel, by decide +kernel⟩
theorem bi_leaves (kV doc pm : Value) (an : Option Addr) (cdv ct : Value) (us : List Value) (hl : us.length = 4) : bindArgs (PySem.W.fnOf d_leaves.name d_leaves.qual d_leaves.params d_leaves.body d_leaves.scope .none kV doc pm an cdv ct) ⟨us, []⟩ = pure ((["cabinet", "mark", "coset", "plan"] : List Str).zip us) := by
  match us, hl with
  | [_, _, _, _], _ => rfl

def R_leaves (K : PySem.W.Frag) (Ts : List Ty) (T : Ty) : Prop := ∃ (m : Int) (n st : Nat) (ws : List W) (mk : Nat) (TL : WM.Pv) (b : List Int) (p : Pl), Ts = [tyCab K m n st ws, tI K mk, tyCoset K m n TL b, dat K (dPlan p)] ∧
    2 ≤ m ∧ m ≤ 60 ∧ 1 ≤ n ∧ n ≤ 12 ∧ (∀ w ∈ ws, WM.WinOk m n st w) ∧ WM.Cos m n TL b ∧ WM.PlanOk ws p mk 3 ∧ wid p ≤ 1000 ∧
    T = tyEx (fun res : List WM.Leaf => WM.Leaves ws m n TL b p mk res ∧ res.length ≤ wid p) (fun res => tyLN (res.map (tyLeaf K m n)))
theorem cal_leaves (G : Glb w K mg base) : C8.Cal PP w K mg base 14 "leaves" (SpF (R_leaves K)) [] :=
  cal_mk G 40 (d := d_leaves) rfl rfl G.g_leaves rfl sc_leaves (k := 13) (spF_len fun Ts T ⟨_, _, _, _, _, _, _, _, h, _⟩ => by rw [h]; rfl) bi_leaves (fun f cdv A outer s H vs Q E hr hsp => by
    obtain ⟨M, Ts, T, hM, hv, ⟨m, n, st, ws, mk, TL, b, p, rfl, hm, hm60, hn1, hn, hws, hc, hp, hwid, rfl⟩, hq⟩ := hsp
    obtain ⟨v1, v2, v3, v4, rfl, h1, h2, h3, h4⟩ := allT4 hv
    cases dp_int h2
    have hm0 : 0 < m := by omega
    refine ⟨_, (pss_cons (ps_expr (C8.pe_c (cal_check_part G 4) hr (by decide) (by rfl) (pa_cons (pv 0) (pa_cons (pv 1) (pa_cons (pv 3) (pa_cons (pe_tup pa_nil) pa_nil))))))
      (pss_one (ps_ret (C8.pe_c (cal_branches G 4) hr (by decide) (by rfl) (pa_cons (pv 0) (pa_cons (pv 1) (pa_cons (C8.pe_c (cal_unit_vectors G) hr (by decide) (by rfl) (pa_cons (C8.pe_mt0 (met_Cabinet_wheels G) hr (by decide) (pv 0)) pa_nil)) (pa_cons (pv 2) (pa_cons (pv 3) (pa_cons (pe_tup pa_nil) pa_nil)))))))))), ?_⟩
    have e0 : ∀ (τ : L2.St) H1, ED K M (tTup tNil) τ H1 (dV []) := fun τ H1 => ed_tup (by simp) ea_nil
    refine sg_drop (T := tN K) hM (eg_call (R := R_check_part K 4) (ega_cons (eg_var (T := tyCab K m n st ws) rfl h1) (ega_d (ed_varI rfl) (ega_cons (eg_var (T := dat K (dPlan p)) rfl h4) (ega_d (e0 _ _) ega_nil)))) ⟨m, n, st, ws, mk, p, [], rfl, hp, by simp, fun w hw => by have := (hws w hw).pane.2; omega, rfl⟩) fun v5 H1 e1 h5 => ?_
    dsimp only
    have hcab := (tyCab K m n st ws).up (hide_ex (M := M) e1) h1
    refine sg_ret (hM.ex e1) ((eg_callF (T := tyEx (fun res : List WM.Leaf => WM.BrOk ws m n (WM.Mem m n TL b) p mk (WM.unitM n) [] res ∧ res.length ≤ wid p) (fun res => tyLN (res.map (tyLeaf K m n)))) (R := R_branches K 4) (ega_cons (eg_var (T := tyCab K m n st ws) rfl hcab) (ega_d (ed_varI rfl) (ega_d (d := dL (WM.unitM n)) (ed_call (R := R_unit_vectors K) (ega_cons (eg_meth (R := R_Cabinet_wheels K) (eg_var (T := tyCab K m n st ws) rfl hcab) rfl ega_nil ⟨m, n, st, ws, rfl, rfl⟩) ega_nil) ⟨n, rfl, by omega, rfl⟩) (ega_cons (eg_var (T := tyCoset K m n TL b) rfl ((tyCoset K m n TL b).up (hide_ex e1) h3)) (ega_cons (eg_var (T := dat K (dPlan p)) rfl (Dp.mono h4 (hide_ex e1))) (ega_d (e0 _ _) ega_nil))))))
      ⟨m, n, st, ws, mk, WM.unitM n, TL, b, p, [], rfl, hm, hm60, hn1, hn, hws, WM.unit_mat (by omega) n, hc, hp, by simp, hwid, rfl⟩).wk (U := tyNew H1 (tyEx (fun res : List WM.Leaf => WM.Leaves ws m n TL b p mk res ∧ res.length ≤ wid p) (fun res => tyLN (res.map (tyLeaf K m n))))) fun v H' ⟨⟨res, ⟨h1, h2⟩, h3⟩, h4⟩ => ⟨⟨res, ⟨h1.leaves hm0, h2⟩, h3⟩, h4⟩) fun v H2 e2 h => hq v H2 (e1.trans e2) h.1 (h.2.back e1))
/-- what a name may be -/
def NameOk (s : Str) : Prop := 1 ≤ s.length ∧ s.length ≤ 8 ∧ ∀ c ∈ s.cps.toList, 97 ≤ c ∧ c ≤ 122
abbrev N_is_name : List Str := ["thing", "letter"]
theorem sc_is_name : FnScope N_is_name ["thing"] d_is_name.scope := ⟨rfl, rfl, rfl, by decide +kernel, rfl, by decide +kernel, by decide +kernel⟩
theorem bi_is_name (kV doc pm : Value) (an : Option Addr) (cdv ct : Value) (us : List Value) (hl : us.length = 1) : bindArgs (PySem.W.fnOf d_is_name.name d_is_name.qual d_is_name.params d_is_name.body d_is_name.scope .none kV doc pm an cdv ct) ⟨us, []⟩ = pure ((["thing"] : List Str).zip us) := by
  match us, hl with
  | [_], _ => rfl

def R_is_name (K : PySem.W.Frag) (Ts : List Ty) (T : Ty) : Prop := ∃ s : Str, Ts = [tS K s] ∧ NameOk s ∧ T = tB K true
theorem letters_all : ((List.range 26).all fun i => decide ((97 + i) ∈ ("abcdefghijklmnopqrstuvwxyz" : Str).cps.toList)) = true := by decide +kernel
theorem letters_mem {c : Nat} (h1 : 97 ≤ c) (h2 : c ≤ 122) : c ∈ ("abcdefghijklmnopqrstuvwxyz" : Str).cps.toList := by
  have := List.all_eq_true.mp letters_all (c - 97) (by simp; omega)
  simp only [decide_eq_true_eq] at this
  rwa [show 97 + (c - 97) = c by omega] at this
theorem ei_str {M : List Addr} {σ : L2.St} {H : Hp} {te : TE} {s : Str} (h : ED K M te σ H (.str s)) : EI M (iStr te) σ H s.cps.toList (fun c => tS K ⟨#[c]⟩) := fun hM H1 e R q => h hM H1 e _ fun v H2 e2 hv => ⟨s, dp_str hv, q _ H2 e2 fun M' H' _ _ => by
  refine ⟨fun i a hi => ?_, fun i hi => (by simpa using hi : s.cps.size ≤ i)⟩
  have hi' : s.cps[i]? = some a := by rw [← Array.getElem?_toList]; exact hi
  refine ⟨(Array.getElem?_eq_some_iff.mp hi').1, fun x H2 ⟨e2, c, hc, ex⟩ => ?_⟩
  subst e2 ex
  rw [hi'] at hc
  injection hc with hc
  subst hc
  exact ⟨Ex.refl _, .str _⟩⟩
theorem cal_is_name (G : Glb w K mg base) : C8.Cal PP w K mg base 1 "is_name" (SpT (R_is_name K)) [] :=
  cal_mk G 3 (d := d_is_name) rfl rfl G.g_is_name rfl sc_is_name (spT_len fun Ts T ⟨_, h, _⟩ => by rw [h]; rfl) bi_is_name (fun f cdv A outer s H vs Q E hr hsp => by
    obtain ⟨M, Ts, T, hM, hv, ⟨nm, rfl, hn, rfl⟩, hq⟩ := hsp
    obtain ⟨v1, rfl, h1⟩ := allT1 hv
    refine ⟨_, (pss_cons (ps_if (PW.pt (pw_or (pt_not (pt_val (pe_callB (id := "isinstance") call_isi (by rfl) G.f_isinstance (by decide +kernel) (pa_cons (pv 0) (pa_cons (pe_bltn (v := .ty "str") (by rfl) G.f_str (by decide +kernel) rfl) pa_nil))))) (pw_or1 (pt_not (pt_chain op_le op_le pe_int (pe_callB (id := "len") call_len (by rfl) G.f_len (by decide +kernel) (pa_cons (pv 0) pa_nil)) (C8.pe_gc (by rfl) G.c_LONGEST_NAME)))))) (pss_one (ps_ret pe_bl)) pss_nil)
      (pss_one (ps_ret (pe_callB (id := "all") (cr_all rfl) (by rfl) G.f_all (by decide +kernel) (pa_cons (pe_lc (own := [("letter", 1)]) (g := (gName 1)) (tt := tYes) rfl sc_is_name.nd (pi_str (pv 0)) (blkOk_by (N := N_is_name) (sc := d_is_name.scope) (by decide +kernel)) (fun _ _ _ _ _ => (pg_name (i := 1) sc_is_name.nd rfl (by first | exact Or.inl rfl | exact Or.inr rfl))) (fun _ _ _ _ _ => pts_nil) (fun _ _ _ _ _ => (pe_cmpR op_in_sign (pv 1) (C8.pe_gc (by rfl) G.c_LETTERS) (by rfl)))) pa_nil))))), ?_⟩
    refine sd_if (b := false) hM ((et_or (et_not (et_B (ed_isi (K := K) (b := true) (n := "str") (ed_var rfl h1) rfl (by decide +kernel)))) fun _ => et_not (et_test (ed_leLe (K := K) ed_int (ed_lenS (by rw [sizeLine_eq]; have := hn.2.1; omega) (ed_var rfl h1)) ed_int))).to ?_) (fun hb => by cases hb) fun _ H1 e1 => ?_
    · have h1 := hn.1
      have h2 := hn.2.1
      simp
      omega
    dsimp only [tNext]
    refine sd_ret (K := K) (hM.ex e1) ((ed_allB (l := nm.cps.toList) (f := fun c => decide (c ∈ ("abcdefghijklmnopqrstuvwxyz" : Str).cps.toList)) (ed_lcA (K := K) (ei_str (K := K) (s := nm) (ed_var rfl (h1.mono (hide_ex e1)))) (by have := hn.2.1; simp; show nm.length ≤ 90000; omega) (fun c => .bool (decide (c ∈ ("abcdefghijklmnopqrstuvwxyz" : Str).cps.toList))) fun M' H' x c i ex hM' hi hx => ?_)).bool ?_) fun v H2 e2 h => hq v H2 (e1.trans e2) h
    · exact turn_name rfl et_yes fun _ => (ed_op (ed_var (K := K) rfl hx) (ed_str (K := K)) fun _ x y H1 _ hx hy Q q => ⟨c, _, dp_str hx, dp_str hy, q _ H1 (Ex.refl _) (.bl _)⟩ : ED K M' _ _ H' (.bool (decide (c ∈ ("abcdefghijklmnopqrstuvwxyz" : Str).cps.toList)))).eg
    · rw [List.all_eq_true]
      intro c hc
      have := hn.2.2 c hc
      simp only [decide_eq_true_eq]
      exact letters_mem this.1 this.2)
abbrev N_are_moves : List Str := ["thing", "marks", "move"]
theorem sc_are_moves : FnScope N_are_moves ["thing", "marks"] d_are_moves.scope := ⟨rfl, rfl, rfl, by decide +kernel, rfl, by decide +kernel, by decide +kernel⟩
theorem bi_are_moves (kV doc pm : Value) (an : Option Addr) (cdv ct : Value) (us : List Value) (hl : us.length = 2) : bindArgs (PySem.W.fnOf d_are_moves.name d_are_moves.qual d_are_moves.params d_are_moves.body d_are_moves.scope .none kV doc pm an cdv ct) ⟨us, []⟩ = pure ((["thing", "marks"] : List Str).zip us) := by
  match us, hl with
  | [_, _], _ => rfl

def R_are_moves (K : PySem.W.Frag) (Ts : List Ty) (T : Ty) : Prop := ∃ (mv : List (Option Nat)) (st : Nat), Ts = [dat K (.tuple (mv.map dMv)), tI K st] ∧ mv.length = st ∧ st ≤ 1000 ∧ (∀ k, some k ∈ mv → k < st) ∧ T = tB K true
theorem cal_are_moves (G : Glb w K mg base) : C8.Cal PP w K mg base 3 "are_moves" (SpT (R_are_moves K)) [] :=
  cal_mk G 41 (d := d_are_moves) rfl rfl G.g_are_moves rfl sc_are_moves (spT_len fun Ts T ⟨_, _, h, _⟩ => by rw [h]; rfl) bi_are_moves (fun f cdv A outer s H vs Q E hr hsp => by
    obtain ⟨M, Ts, T, hM, hv, ⟨mv, st, rfl, hl, hst, hk, rfl⟩, hq⟩ := hsp
    obtain ⟨v1, v2, rfl, h1, h2⟩ := allT2 hv
    cases dp_int h2
    refine ⟨_, (pss_cons (ps_if (PW.pt (pw_or (pt_not (pt_val (pe_callB (id := "isinstance") call_isi (by rfl) G.f_isinstance (by decide +kernel) (pa_cons (pv 0) (pa_cons (pe_bltn (v := .ty "tuple") (by rfl) G.f_tuple (by decide +kernel) rfl) pa_nil))))) (pw_or1 (pt_cmpR op_ne (pe_callB (id := "len") call_len (by rfl) G.f_len (by decide +kernel) (pa_cons (pv 0) pa_nil)) (pv 1) (nomark _))))) (pss_one (ps_ret pe_bl)) pss_nil)
      (pss_one (ps_ret (pe_callB (id := "all") (cr_all rfl) (by rfl) G.f_all (by decide +kernel) (pa_cons (pe_lc (own := [("move", 2)]) (g := (gName 2)) (tt := tYes) rfl sc_are_moves.nd (pi_tup (pv 0)) (blkOk_by (N := N_are_moves) (sc := d_are_moves.scope) (by decide +kernel)) (fun _ _ _ _ _ => (pg_name (i := 2) sc_are_moves.nd rfl (by first | exact Or.inl rfl | exact Or.inr rfl))) (fun _ _ _ _ _ => pts_nil) (fun _ _ _ _ _ => (pe_or (pe_cmpR op_isN1 (pv 2) pe_non (nomark _)) (pe_one (C8.pe_c (cal_is_between G) hr (by decide) (by rfl) (pa_cons (pv 2) (pa_cons pe_int (pa_cons (pe_op op_sub (pv 1) pe_int) pa_nil)))))))) pa_nil))))), ?_⟩
    refine sd_if (b := false) hM ((et_or (et_not (et_B (ed_isi (K := K) (b := true) (n := "tuple") (ed_var rfl h1) rfl (by decide +kernel)))) fun _ => et_test (ed_neI (K := K) (ed_lenU (ed_var rfl h1)) (ed_varI rfl))).to (by simp [hl])) (fun hb => by cases hb) fun _ H1 e1 => ?_
    dsimp only [tNext]
    refine sd_ret (K := K) (hM.ex e1) ((ed_allB (l := mv) (f := fun _ => true) (ed_lcT1 (K := K) (src := mv) (g := dMv) (ed_var rfl (Dp.mono h1 (hide_ex e1))) (by omega) (fun _ => .bool true) (fun _ => rfl) fun M' H' x a ex hM' ha hx => ?_)).bool (by simp)) fun v H2 e2 h => hq v H2 (e1.trans e2) h
    cases a with
    | none =>
      have hx : Dp K (hide M' H') x .none := hx
      exact (ed_or (b := true) (c := true) (ed_isN (K := K) (ed_var rfl hx)) fun hb => by cases hb)
    | some k =>
      have hx : Dp K (hide M' H') x (.int (k : Int)) := hx
      have hkk := hk k ha
      refine (ed_or (b := false) (c := (decide ((0 : Int) ≤ k) && decide ((k : Int) ≤ (st : Int) - 1))) (ed_isN (K := K) (ed_var rfl hx)) fun _ => ed_call (R := R_is_between K) (ega_d (ed_var (K := K) rfl hx) (ega_d ed_int (ega_d (ed_sub (K := K) (ed_varI rfl) ed_int) ega_nil))) ⟨_, 0, _, rfl, rfl⟩).bool ?_
      simp
      omega)
abbrev N_is_window : List Str := ["thing", "modulus", "wheels", "marks", "name", "source", "target", "factor", "pane", "moves"]
theorem sc_is_window : FnScope N_is_window ["thing", "modulus", "wheels", "marks"] d_is_window.scope := ⟨rfl, rfl, rfl, by decide +kernel, rfl, by decide +kernel, by decide +kernel⟩
theorem bi_is_window (kV doc pm : Value) (an : Option Addr) (cdv ct : Value) (us : List Value) (hl : us.length = 4) : bindArgs (PySem.W.fnOf d_is_window.name d_is_window.qual d_is_window.params d_is_window.body d_is_window.scope .none kV doc pm an cdv ct) ⟨us, []⟩ = pure ((["thing", "modulus", "wheels", "marks"] : List Str).zip us) := by
  match us, hl with
  | [_, _, _, _], _ => rfl

def R_is_window (K : PySem.W.Frag) (Ts : List Ty) (T : Ty) : Prop := ∃ (u : W) (m : Int) (n st : Nat), Ts = [dat K (dWin u), tI K m, tI K n, tI K st] ∧ WM.WinOk m n st u ∧ NameOk u.name ∧ m ≤ 60 ∧ n ≤ 100 ∧ st ≤ 100 ∧ T = tB K true
theorem cal_is_window (G : Glb w K mg base) : C8.Cal PP w K mg base 4 "is_window" (SpT (R_is_window K)) [] :=
  cal_mk G 42 (d := d_is_window) rfl rfl G.g_is_window rfl sc_is_window (spT_len fun Ts T ⟨_, _, _, _, h, _⟩ => by rw [h]; rfl) bi_is_window (fun f cdv A outer s H vs Q E hr hsp => by
    obtain ⟨M, Ts, T, hM, hv, ⟨u, m, n, st, rfl, U, hnm, hm, hn, hst, rfl⟩, hq⟩ := hsp
    obtain ⟨v1, v2, v3, v4, rfl, h1, h2, h3, h4⟩ := allT4 hv
    cases dp_int h2
    cases dp_int h3
    cases dp_int h4
    have U1 := U.src
    have U2 := U.tgt
    have U3 := U.fac
    have U4 := U.pane
    refine ⟨_, (pss_cons (ps_if (PW.pt (pw_or (pt_not (pt_val (pe_callB (id := "isinstance") call_isi (by rfl) G.f_isinstance (by decide +kernel) (pa_cons (pv 0) (pa_cons (pe_bltn (v := .ty "tuple") (by rfl) G.f_tuple (by decide +kernel) rfl) pa_nil))))) (pw_or1 (pt_cmpR op_ne (pe_callB (id := "len") call_len (by rfl) G.f_len (by decide +kernel) (pa_cons (pv 0) pa_nil)) pe_int (nomark _))))) (pss_one (ps_ret pe_bl)) pss_nil)
      (pss_cons (ps_asg (pv 0) (pg_tup rfl (pgs_cons (pg_name (i := 4) sc_is_window.nd rfl (by first | exact Or.inl rfl | exact Or.inr rfl)) (pgs_cons (pg_name (i := 5) sc_is_window.nd rfl (by first | exact Or.inl rfl | exact Or.inr rfl)) (pgs_cons (pg_name (i := 6) sc_is_window.nd rfl (by first | exact Or.inl rfl | exact Or.inr rfl)) (pgs_cons (pg_name (i := 7) sc_is_window.nd rfl (by first | exact Or.inl rfl | exact Or.inr rfl)) (pgs_cons (pg_name (i := 8) sc_is_window.nd rfl (by first | exact Or.inl rfl | exact Or.inr rfl)) (pgs_cons (pg_name (i := 9) sc_is_window.nd rfl (by first | exact Or.inl rfl | exact Or.inr rfl)) pgs_nil))))))))
      (pss_cons (ps_if (PW.pt (pw_or (pt_not (pt_val (C8.pe_c (cal_is_name G) hr (by decide) (by rfl) (pa_cons (pv 4) pa_nil)))) (pw_or (pt_not (pt_val (C8.pe_c (cal_is_between G) hr (by decide) (by rfl) (pa_cons (pv 5) (pa_cons pe_int (pa_cons (pe_op op_sub (pv 2) pe_int) pa_nil)))))) (pw_or1 (pt_not (pt_val (C8.pe_c (cal_is_between G) hr (by decide) (by rfl) (pa_cons (pv 6) (pa_cons pe_int (pa_cons (pe_op op_sub (pv 2) pe_int) pa_nil)))))))))) (pss_one (ps_ret pe_bl)) pss_nil)
      (pss_cons (ps_if (PW.pt (pw_or (pt_cmpR op_eq (pv 5) (pv 6) (nomark _)) (pw_or (pt_not (pt_val (C8.pe_c (cal_is_between G) hr (by decide) (by rfl) (pa_cons (pv 7) (pa_cons pe_int (pa_cons (pe_op op_sub (pv 1) pe_int) pa_nil)))))) (pw_or1 (pt_not (pt_val (C8.pe_c (cal_is_between G) hr (by decide) (by rfl) (pa_cons (pv 8) (pa_cons pe_int (pa_cons (pv 1) pa_nil)))))))))) (pss_one (ps_ret pe_bl)) pss_nil)
      (pss_one (ps_ret (pe_and (pe_cmpR op_eq (pe_op op_mod (pv 1) (pv 8)) pe_int (nomark _)) (pe_one (C8.pe_c (cal_are_moves G) hr (by decide) (by rfl) (pa_cons (pv 9) (pa_cons (pv 3) pa_nil))))))))))), ?_⟩
    refine sd_if (b := false) hM ((et_or (et_not (et_B (ed_isi (K := K) (b := true) (n := "tuple") (ed_var rfl h1) rfl (by decide +kernel)))) fun _ => et_test (ed_neI (K := K) (ed_lenU (ds := [.str u.name, .int u.src, .int u.tgt, .int u.fac, .int u.pane, .tuple (u.moves.map dMv)]) (ed_var rfl h1)) ed_int)).to (by simp)) (fun hb => by cases hb) fun _ H1 e1 => ?_
    dsimp only [tNext]
    refine sg_bind (hM.ex e1) (eg_var (T := dat K (dWin u)) rfl (Dp.mono h1 (hide_ex e1))) fun vu H2 e2 hvu => ?_
    refine g_tup6 (K := K) hvu fun x1 x2 x3 x4 x5 x6 hx1 hx2 hx3 hx4 hx5 hx6 => ?_
    cases dp_int hx2
    cases dp_int hx3
    cases dp_int hx4
    cases dp_int hx5
    dsimp only
    have e02 := e1.trans e2
    have btw : ∀ {σ : L2.St} {H1 : Hp} {te tf : TE} {i b : Int}, ED K M te σ H1 (.int i) → ED K M tf σ H1 (.int b) → 0 ≤ i → i ≤ b → ED K M (tCall (SpT (R_is_between K)) [] C8.E0 (tCons te (tCons (tC (.int 0)) (tCons tf tNil)))) σ H1 (.bool true) := fun {σ H1 te tf i b} ha hb h0 h1 => (ed_call (R := R_is_between K) (ega_d ha (ega_d ed_int (ega_d hb ega_nil))) ⟨i, 0, b, rfl, rfl⟩).bool (by simp; omega)
    have btw1 : ∀ {σ : L2.St} {H1 : Hp} {te tf : TE} {i b : Int}, ED K M te σ H1 (.int i) → ED K M tf σ H1 (.int b) → 1 ≤ i → i ≤ b → ED K M (tCall (SpT (R_is_between K)) [] C8.E0 (tCons te (tCons (tC (.int 1)) (tCons tf tNil)))) σ H1 (.bool true) := fun {σ H1 te tf i b} ha hb h0 h1 => (ed_call (R := R_is_between K) (ega_d ha (ega_d ed_int (ega_d hb ega_nil))) ⟨i, 1, b, rfl, rfl⟩).bool (by simp; omega)
    refine sd_if (b := false) (hM.ex e02) ((et_or (et_not (et_B (ed_call (K := K) (d := .bool true) (R := R_is_name K) (ega_d (ed_var rfl hx1) ega_nil) ⟨u.name, rfl, hnm, rfl⟩))) fun _ => et_or (et_not (et_B (btw (ed_varI rfl) (ed_sub (ed_varI rfl) ed_int) (by omega) (by omega)))) fun _ => et_not (et_B (btw (ed_varI rfl) (ed_sub (ed_varI rfl) ed_int) (by omega) (by omega)))).to rfl) (fun hb => by cases hb) fun _ H3 e3 => ?_
    dsimp only [tNext]
    have e03 := e02.trans e3
    refine sd_if (b := false) (hM.ex e03) ((et_or (et_test (ed_eqI (K := K) (ed_varI rfl) (ed_varI rfl))) fun _ => et_or (et_not (et_B (btw (ed_varI rfl) (ed_sub (ed_varI rfl) ed_int) U3.1 (by omega)))) fun _ => et_not (et_B (btw1 (ed_varI rfl) (ed_varI rfl) (by omega) (by omega)))).to ?_) (fun hb => by cases hb) fun _ H4 e4 => ?_
    · have : ¬ ((u.src : Int) = u.tgt) := by have := U.ne; omega
      simp [this]
    dsimp only [tNext]
    have e04 := e03.trans e4
    refine sd_ret (hM.ex e04) ((ed_and (K := K) (b := true) (c := true) ((ed_eqI (ed_mod (by omega) (ed_varI rfl) (ed_varI rfl)) ed_int).bool (by have := Int.emod_eq_zero_of_dvd U.dvd; simp [this])) fun _ => ed_call (R := R_are_moves K) (ega_d (d := .tuple (u.moves.map dMv)) (ed_var rfl (hx6.mono (hide_ex (e3.trans e4)))) (ega_d (ed_varI rfl) ega_nil)) ⟨u.moves, st, rfl, U.len, by omega, U.rng, rfl⟩).bool rfl) fun v H5 e5 h => hq v H5 (e04.trans e5) h)
end
end WL
end
section
set_option Elab.async false
set_option linter.all false
set_option maxRecDepth 100000
set_option maxHeartbeats 4000000
/-! D16: Cabinet.__init__, made with a keyword. -/
namespace WL
open PySem PySem.Spec PyProof.Rows L2 Evl HeadW
/-- a class that is made with one keyword behind three values -/
structure MakN (P : Program) (w : World) (K : PySem.W.Frag) (mg : Str → Option Value) (base : Heap) (k : Nat) (x : Str) (C : Addr) (sp : Sp) : Prop where
  ex : ∃ (f : Addr) (fd : FuncData) (ps : List Str) (g : List Value → List Value → List Value), Mk K C f ∧ FnOk P w K mg base C8.CX0 k f fd ps sp ∧ mg x = some (.ref C) ∧ KBn K fd ps 4 ["marks"] g (fun vs zs => vs ++ zs)
section
variable {X : Cx} {k j : Nat} {C : Addr} {x : Str} {sp : Sp} {p pos : Pos} {e : Expr} {es : List Expr} {kws : List Keyword} {t tk : TA}
theorem pe_mkN (c : MakN X.prog X.w X.K X.mg X.base k x C sp) (hr : Room j X.A) (hk : k + 1 ≤ j) (hg : Gl X x) (ha : PA X (e :: es) t) (hkw : PK X kws tk)
    (hall : (backToKw pos (keywordEach kws X.env)).all (·.1.isSome) = true := by rfl) (hks : (backToKw pos (keywordEach kws X.env)).filterMap (·.1) = (["marks"] : List Str) := by rfl) (hdb : (x == ("__debug__" : Str)) = false := by decide)
    (he : starEach (e :: es) X.env = (false, eval e X.env) :: starEach es X.env := by rfl) (hpl : ((backTo pos (starEach (e :: es) X.env)).any (·.1) || (backToKw pos (keywordEach kws X.env)).any (·.1.isNone)) = false := by rfl) :
    PE X (.Call (.Name x p) (e :: es) kws pos) (tMakeK C 3 1 sp (fun vs zs => vs ++ zs) C8.E0 t tk) := by
  obtain ⟨f, fd, ps, g, M, F, hm, b⟩ := c.ex
  exact pe_makeK M F (hr.mono hk) hg hm b C8.pass0 ha hkw hall hks hdb he hpl
end
section
variable {K : PySem.W.Frag} {M : List Addr} {σ : L2.St} {H H' : Hp} {te : TE} {T : Ty} {D : Ends} {g : TG} {C : Addr} {Ts Us : List Ty}
theorem eg_makeK {R : List Ty → (List (Str × Ty) → Prop) → Prop} {P : List (Str × Ty) → Prop} {E : XK} {t tk : TA} {n m : Nat} (h : EGA M t σ H Ts) (hk : EGA M tk σ H Us) (hn : Ts.length = n) (hm : Us.length = m) (r : R (Ts ++ Us) P) : EG M (tMakeK C n m (SpI C R) (fun vs zs => vs ++ zs) E t tk) σ H (tyEx P (tyO C)) := fun hM H1 e Q q =>
  h hM H1 e _ fun vs H2 e2 h2 => hk hM H2 (e.trans e2) _ fun zs H3 e3 h3 => ⟨by rw [h2.len, hn], by rw [h3.len, hm], fun x dx hx hd hne => by
    have hM3 := hM.ex ((e.trans e2).trans e3)
    have f0 : Fr [] M H3 M (upd H3 dx (.own x)) := (Fr.refl hM3).gex (Ex.new hd)
    have hx' : (upd H3 dx (.own x)) x = none := by rw [upd_ne (Ne.symm hne)]; exact hx
    have f1 : Fr [] M H3 (x :: M) (upd (upd H3 dx (.own x)) x (.ins C dx [])) := f0.new hx'
    refine ⟨x :: M, x, dx, vs ++ zs, Ts ++ Us, P, rfl, f1.ok, by simp, upd_same, ((h2.up (hide_ex e3)).app h3).up f1.vis, r, fun H' fs us f hx3 hu hP => ⟨rfl, q _ H' ((e2.trans e3).trans ?_) ⟨fs, hP, x, dx, us, rfl, ?_, ?_⟩⟩⟩
    · intro a o ha
      exact f.keep a o (by simp; exact ne_of_none ha hx) (f1.out a o ha)
    · rw [hide_out (hM3.new hx)]
      exact hx3
    · exact hu.up (hide_less fun a ha => List.mem_cons_of_mem _ ha)⟩
theorem flat_strs (l : List Str) : (l.map V.str).all flatV = true := by
  rw [List.all_map, List.all_eq_true]
  intro a _
  rfl
theorem inV_strs (s : Str) (l : List Str) : inV (.str s) (l.map V.str) = decide (s ∈ l) := by
  unfold inV
  induction l with
  | nil => simp
  | cons a l ih =>
    rw [List.map_cons, List.any_cons, ih]
    have : eqV (.str a) (.str s) = decide (a = s) := by
      show (a == s) = _
      rw [Bool.beq_eq_decide_eq]
    rw [this]
    by_cases z : a = s
    · subst z; simp
    · have : ¬ s = a := fun q => z q.symm
      simp [z, this]
theorem et_in_strs {i : Nat} {ta : TE} {s : Str} {l : List Str} {p : Addr} {xs : List V} (ha : ED K M ta σ H (.str s)) (hs : σ[i]? = some (some (.ref p))) (hp : H p = some (.lst xs)) (hx : DpAll K (hide M H) xs (l.map .str)) : ET M (tTest (tOp (rIn K false) ta (tVar i))) σ H (decide (s ∈ l)) := fun hM H1 e Q q =>
  ha hM H1 e _ fun x H2 e2 hx2 => ⟨.ref p, hs, p, xs, rfl, .inl (sq_of ((e.trans e2) p _ hp)), by rw [dp_str hx2]; rfl, by rw [dpAll_strs_eq hx]; exact flat_strs l, _, rfl, by
    rw [dp_str hx2, dpAll_strs_eq hx, inV_strs]
    exact q H2 e2⟩
end
section
variable {w : World} {K : PySem.W.Frag} {mg : Str → Option Value} {base : Heap}
abbrev N_Cabinet_init : List Str := ["self", "modulus", "wheels", "windows", "marks", "taken", "at", "window"]
theorem sc_Cabinet_init : FnScope N_Cabinet_init ["self", "modulus", "wheels", "windows", "marks"] d_Cabinet_init.scope := ⟨rfl, rfl, rfl, by decide +kernel, rfl, by decide +kernel, by decide +kernel⟩

def IsCab (K : PySem.W.Frag) (m : Int) (n st : Nat) (ws : List W) (fs : List (Str × Ty)) : Prop := fs = fsCab K m n st ws
def R_Cabinet_init (K : PySem.W.Frag) (Ts : List Ty) (P : List (Str × Ty) → Prop) : Prop := ∃ (m : Int) (n st : Nat) (ws : List W), Ts = [tI K m, tI K n, dat K (dWins ws), tI K st] ∧ 2 ≤ m ∧ m ≤ 60 ∧ 1 ≤ n ∧ n ≤ 6 ∧ 1 ≤ st ∧ st ≤ 4 ∧ ws.length ≤ 8 ∧
  (∀ u ∈ ws, WM.WinOk m n st u ∧ NameOk u.name) ∧ (ws.map fun u => u.name).Nodup ∧ P = IsCab K m n st ws
theorem init_Cabinet (G : Glb w K mg base) {fd : FuncData} (F : FunD K "__init__" d_Cabinet_init.qual d_Cabinet_init.params d_Cabinet_init.body d_Cabinet_init.scope [] [("marks", .int 1)] (He.ma K (cCab K) "__init__") fd) :
    FnOk PP w K mg base C8.CX0 5 (He.ma K (cCab K) "__init__") fd ["self", "modulus", "wheels", "windows", "marks"] (SpI (cCab K) (R_Cabinet_init K)) :=
  F.ok (CX := C8.CX0) sc_Cabinet_init (spI_len (n := 4) fun Ts P ⟨_, _, _, _, h, _⟩ => by rw [h]; rfl) fun cdv A outer s H vs Q E hr hsp => by
    obtain ⟨M, x, dx, wv, Ts, P, rfl, hM, hxM, hx, hv, ⟨m, n, st, ws, rfl, hm, hm60, hn1, hn, hs1, hs4, hwl, hws, hnd, rfl⟩, hq⟩ := hsp
    obtain ⟨v1, v2, v3, v4, rfl, h1, h2, h3, h4⟩ := allT4 hv
    cases dp_int h1
    cases dp_int h2
    cases dp_int h4
    have key : ∃ t, PSs (cxOf C8.CX0 PP w K mg base N_Cabinet_init d_Cabinet_init.qual d_Cabinet_init.scope (He.ma K (cCab K) "__init__") cdv A outer s H E).nox d_Cabinet_init.body t ∧ t { nx := fun _ H' => Q .non H', rt := Q } (start N_Cabinet_init [.ref x, .int m, .int n, v3, .int st]) H := by
      refine ⟨_, (pss_cons (ps_if (pt_not (pt_val (C8.pe_c (cal_is_modulus G) hr (by decide) (by rfl) (pa_cons (pv 1) pa_nil)))) (pss_one ps_never) pss_nil)
      (pss_cons (ps_if (pt_not (pt_val (C8.pe_c (cal_is_between G) hr (by decide) (by rfl) (pa_cons (pv 2) (pa_cons pe_int (pa_cons (C8.pe_gc (by rfl) G.c_MOST_WHEELS) pa_nil)))))) (pss_one ps_never) pss_nil)
      (pss_cons (ps_if (PW.pt (pw_or (pt_not (pt_val (pe_callB (id := "isinstance") call_isi (by rfl) G.f_isinstance (by decide +kernel) (pa_cons (pv 3) (pa_cons (pe_bltn (v := .ty "list") (by rfl) G.f_list (by decide +kernel) rfl) pa_nil))))) (pw_or1 (pt_cmpR op_gt (pe_callB (id := "len") call_len (by rfl) G.f_len (by decide +kernel) (pa_cons (pv 3) pa_nil)) (C8.pe_gc (by rfl) G.c_MOST_WINDOWS) (nomark _))))) (pss_one ps_never) pss_nil)
      (pss_cons (ps_if (pt_not (pt_val (C8.pe_c (cal_is_between G) hr (by decide) (by rfl) (pa_cons (pv 4) (pa_cons pe_int (pa_cons (C8.pe_gc (by rfl) G.c_MOST_MARKS) pa_nil)))))) (pss_one ps_never) pss_nil)
      (pss_cons (ps_set (i := 5) sc_Cabinet_init.nd rfl (by first | exact Or.inl rfl | exact Or.inr rfl) (pe_lst pa_nil))
      (pss_cons (ps_for PassesOwn.never rfl (pi_enum (by rfl) G.f_enumerate (pa_cons (pv 3) pa_nil)) (pg_tup rfl (pgs_cons (pg_name (i := 6) sc_Cabinet_init.nd rfl (by first | exact Or.inl rfl | exact Or.inr rfl)) (pgs_cons (pg_name (i := 7) sc_Cabinet_init.nd rfl (by first | exact Or.inl rfl | exact Or.inr rfl)) pgs_nil))) (pss_cons (ps_if (PW.pt (pw_or (pt_not (pt_val (C8.pe_c (cal_is_window G) hr (by decide) (by rfl) (pa_cons (pv 7) (pa_cons (pv 1) (pa_cons (pv 2) (pa_cons (pv 4) pa_nil))))))) (pw_or1 (pt_cmpR op_in_seq (pe_ix ix_tup (pv 7) pe_int (fun _ _ => rfl)) (pv 5) (by rfl))))) (pss_one ps_never) pss_nil)
      (pss_one (ps_expr (pe_bm PySem.F.plainAttrs_list PySem.F.slot_list_append PySem.F.type_list_append mt_append (pv 5) (pa_cons (pe_ix ix_tup (pv 7) pe_int (fun _ _ => rfl)) pa_nil))))))
      (pss_cons (ps_fld (pv 0) (pv 1) rfl)
      (pss_cons (ps_fld (pv 0) (pv 2) rfl)
      (pss_cons (ps_fld (pv 0) (pv 4) rfl)
      (pss_one (ps_fld (pv 0) (pe_callTy (T := "list") call_list_of (by rfl) G.f_list (by decide +kernel) (pa_cons (pv 3) pa_nil)) rfl))))))))))), ?_⟩
      have btw : ∀ {σ : L2.St} {H1 : Hp} {te tf tg : TE} {i a b : Int}, ED K M te σ H1 (.int i) → ED K M tf σ H1 (.int a) → ED K M tg σ H1 (.int b) → a ≤ i → i ≤ b → ED K M (tCall (SpT (R_is_between K)) [] C8.E0 (tCons te (tCons tf (tCons tg tNil)))) σ H1 (.bool true) := fun {σ H1 te tf tg i a b} ha hf hb h0 h1 => (ed_call (R := R_is_between K) (ega_d ha (ega_d hf (ega_d hb ega_nil))) ⟨i, a, b, rfl, rfl⟩).bool (by simp; omega)
      refine sd_if (b := false) hM ((et_not (et_B (ed_call (K := K) (R := R_is_modulus K) (ega_d (ed_varI rfl) ega_nil) ⟨m, rfl, rfl⟩))).to (by simp; omega)) (fun hb => by cases hb) fun _ H1 e1 => ?_
      dsimp only [tNext]
      refine sd_if (b := false) (hM.ex e1) ((et_not (et_B (btw (ed_varI rfl) ed_int ed_int (by omega) (by omega)))).to rfl) (fun hb => by cases hb) fun _ H2 e2 => ?_
      dsimp only [tNext]
      have e02 := e1.trans e2
      have h32 := Dp.mono h3 (hide_ex (M := M) e02)
      refine sd_if (b := false) (hM.ex e02) ((et_or (et_not (et_B (ed_isi (K := K) (b := true) (n := "list") (ed_var rfl h32) rfl (by decide +kernel)))) fun _ => et_test (ed_cmp (ed_len (ed_var rfl h32)) ed_int)).to (by simp; omega)) (fun hb => by cases hb) fun _ H3 e3 => ?_
      dsimp only [tNext]
      have e03 := e02.trans e3
      refine sd_if (b := false) (hM.ex e03) ((et_not (et_B (btw (ed_varI rfl) ed_int ed_int (by omega) (by omega)))).to rfl) (fun hb => by cases hb) fun _ H4 e4 => ?_
      dsimp only [tNext]
      have e04 := e03.trans e4
      refine s_new0 fun q hq0 => ?_
      dsimp only
      have hqH : H q = none := fresh_back e04 hq0
      have hxq : x ≠ q := ne_of_none hx hqH
      have f0 := ((Fr.refl (B := [x]) hM).gex e04).new (o := .lst []) hq0
      have hsub : ∀ a ∈ M, a ∈ q :: M := fun a ha => by simp [ha]
      refine s_for f0.ok (ei_enum (K := K) (src := ws) (ty := fun u => dat K (dWin u)) (ega_one ((EG.l (ed_var (K := K) (d := dWins ws) rfl (Dp.mono h3 f0.vis))).to (by rw [List.map_map]; rfl)))) (q :: M)
        (fun H1 i σ' H' => ∃ xs y6 y7, σ' = [some (.ref x), some (.int m), some (.int n), some v3, some (.int st), some (.ref q), y6, y7] ∧ Fr [x] M H (q :: M) H' ∧ Ex (hide (q :: M) H1) (hide (q :: M) H') ∧ H' q = some (.lst xs) ∧ DpAll K (hide (q :: M) H') xs (((ws.take i).map fun u => u.name).map .str) ∧ H' x = some (.ins (cCab K) dx []))
        (fun H1 i σ' H' e ⟨xs, _, _, _, p1, p2, _⟩ => ⟨p2, p1.ok⟩) (fun H1 e => ⟨[], none, none, rfl, f0.gex e, Ex.refl _, e q _ upd_same, .nil, e x _ (by rw [upd_ne hxq]; exact e04 x _ hx)⟩) ?_ ?_
      · rintro H1 i ⟨u, j⟩ vx σ' H' H5 e hi ⟨xs, y6, y7, rfl, fr, ex1, hqx, hxs, hxx⟩ e5 hvx
        obtain ⟨t, zs, rfl, hs, hvx⟩ := hvx
        obtain ⟨y1, y2, rfl, hy1, hy2⟩ := allT2 hvx
        cases dp_int hy1
        obtain ⟨hi, rfl⟩ := zipIdx_at hi
        have hmem := List.mem_of_getElem? hi
        have hjl := (List.getElem?_eq_some_iff.mp hi).1
        refine ⟨t, [_, _], rfl, ex_t (hide_sub _ _) hs, rfl, _, _, rfl, _, _, rfl, rfl, ?_⟩
        dsimp only
        have f5 := fr.gex e5
        have hy2 : Dp K (hide (q :: M) H5) y2 (dWin u) := hy2
        have hnin : u.name ∉ ((ws.take j).map fun u => u.name) := fun hmm => by
          obtain ⟨z, hz, hze⟩ := List.mem_map.mp hmm
          obtain ⟨l, hl1, hl2⟩ := List.mem_take_iff_getElem.mp hz
          have := List.pairwise_iff_getElem.mp hnd l j (by simp; omega) (by simpa using hjl) (by omega)
          simp only [List.getElem_map] at this
          have e1 : ws[j] = u := (List.getElem?_eq_some_iff.mp hi).2
          rw [hl2, e1] at this
          exact this hze
        refine sd_if (b := false) f5.ok ((et_or (et_not (et_B (ed_call (K := K) (d := .bool true) (R := R_is_window K) (ega_d (ed_var rfl hy2) (ega_d (ed_varI rfl) (ega_d (ed_varI rfl) (ega_d (ed_varI rfl) ega_nil)))) ⟨u, m, n, st, rfl, (hws u hmem).1, (hws u hmem).2, hm60, by omega, by omega, rfl⟩))) fun _ =>
          et_in_strs (K := K) (ed_ixT (d := .str u.name) rfl (ed_var rfl hy2) ed_int) rfl (e5 q _ hqx) (hxs.mono (hide_ex e5))).to (by rw [decide_eq_false hnin]; rfl)) (fun hb => by cases hb) fun _ H6 e6 => ?_
        dsimp only [tNext]
        have hy26 := hy2.mono (hide_ex (M := q :: M) e6)
        have e56 := e5.trans e6
        refine s_append (K := K) (f5.gex e6).ok (e56 q _ hqx) rfl (ed_ixT (d := .str u.name) rfl (ed_var rfl hy26) ed_int).eg (by rw [dpAll_len hxs]; simp; omega) fun vv H7 e7 hvv => ?_
        refine ⟨_, _, _, rfl, ((f5.gex e6).gex e7).upd (by simp) (.inr hqH), ?_, upd_same, ?_, by rw [upd_ne hxq]; exact (e56.trans e7) x _ hxx⟩
        · rw [hide_upd (by simp)]
          exact ex1.trans (hide_ex (e56.trans e7))
        · rw [hide_upd (by simp)]
          have : ws.take (j + 1) = ws.take j ++ [u] := by rw [List.take_add_one, hi]; rfl
          rw [this, List.map_append, List.map_append]
          exact dpAll_app (hxs.mono (hide_ex (e56.trans e7))) (dpAll_one hvv)
      · rintro H1 σ' H' e ⟨xs, y6, y7, rfl, fr, ex1, hqx, hxs, hxx⟩
        dsimp only
        have f := fr.back hsub
        refine s_fld (C := cCab K) (l := []) f.ok rfl hxx G.k_Cabinet G.n_Cabinet_own_modulus (by simp) (ed_varI (K := K) rfl).eg fun w1 H5 e5 hw1 => ?_
        cases dp_int hw1
        have f5 := (f.gex e5).upd (a := x) (o := .ins (cCab K) dx (putF "own_modulus" (.int m) [])) hxM (.inl (by simp))
        have x5 : (upd H5 x (.ins (cCab K) dx (putF "own_modulus" (.int m) []))) x = some (.ins (cCab K) dx [("own_modulus", .int m)]) := upd_same
        generalize upd H5 x (.ins (cCab K) dx (putF "own_modulus" (.int m) [])) = H5' at f5 x5
        dsimp only
        refine s_fld (C := cCab K) f5.ok rfl x5 G.k_Cabinet G.n_Cabinet_wheel_count (by simp) (ed_varI (K := K) rfl).eg fun w2 H6 e6 hw2 => ?_
        cases dp_int hw2
        have f6 := (f5.gex e6).upd (a := x) (o := .ins (cCab K) dx (putF "wheel_count" (.int n) [("own_modulus", .int m)])) hxM (.inl (by simp))
        have x6 : (upd H6 x (.ins (cCab K) dx (putF "wheel_count" (.int n) [("own_modulus", .int m)]))) x = some (.ins (cCab K) dx [("own_modulus", .int m), ("wheel_count", .int n)]) := upd_same
        generalize upd H6 x (.ins (cCab K) dx (putF "wheel_count" (.int n) [("own_modulus", .int m)])) = H6' at f6 x6
        dsimp only
        refine s_fld (C := cCab K) f6.ok rfl x6 G.k_Cabinet G.n_Cabinet_mark_count (by simp) (ed_varI (K := K) rfl).eg fun w3 H7 e7 hw3 => ?_
        cases dp_int hw3
        have f7 := (f6.gex e7).upd (a := x) (o := .ins (cCab K) dx (putF "mark_count" (.int st) [("own_modulus", .int m), ("wheel_count", .int n)])) hxM (.inl (by simp))
        have x7 : (upd H7 x (.ins (cCab K) dx (putF "mark_count" (.int st) [("own_modulus", .int m), ("wheel_count", .int n)]))) x = some (.ins (cCab K) dx [("own_modulus", .int m), ("wheel_count", .int n), ("mark_count", .int st)]) := upd_same
        generalize upd H7 x (.ins (cCab K) dx (putF "mark_count" (.int st) [("own_modulus", .int m), ("wheel_count", .int n)])) = H7' at f7 x7
        dsimp only
        refine s_fld (C := cCab K) f7.ok rfl x7 G.k_Cabinet G.n_Cabinet_window_list (by simp) (ed_listOf (K := K) (ed_var (d := dWins ws) rfl (Dp.mono h3 f7.vis))).eg fun w4 H8 e8 hw4 => ?_
        refine hq _ (fsCab K m n st ws) [.int m, .int n, .int st, w4] ((f7.gex e8).upd hxM (.inl (by simp))) upd_same ?_ rfl
        rw [hide_upd hxM]
        exact .cons (.int _) (.cons (.int _) (.cons (.int _) (.cons hw4 .nil)))
    obtain ⟨t, k1, k2⟩ := key
    exact ⟨t, k1.nox, k2⟩
theorem mak_Cabinet (G : Glb w K mg base) : MakN PP w K mg base 5 "Cabinet" (cCab K) (SpI (cCab K) (R_Cabinet_init K)) := by
  obtain ⟨fd, F⟩ := G.says.d.def_ 43 (d := d_Cabinet_init) rfl
  obtain ⟨mv, hb⟩ := FunD.kbinds0 (ps := ["self", "modulus", "wheels", "windows", "marks"]) F 4 ["marks"] [] (fun us mv ws => us ++ ws) (by intro h; cases h) (fun q hq => by cases hq) (fun a _ b => a.append b) (fun D doc pm an cdv ct us mv ws l1 l2 l3 => by
    match us, l1, ws, l3, mv, l2 with
    | [_, _, _, _], _, [_], _, [], _ => rfl)
  exact ⟨_, fd, _, _, G.mk_Cabinet, init_Cabinet G F, G.g_Cabinet, hb⟩
end
end WL
end
section
set_option Elab.async false
set_option linter.all false
set_option maxRecDepth 100000
set_option maxHeartbeats 4000000
/-! D17: the law's own plain defs. -/
namespace WL
open PySem PySem.Spec PyProof.Rows L2 Evl HeadW
section
variable {K : PySem.W.Frag} {M : List Addr} {σ : L2.St} {H H' : Hp} {te ta tb : TE} {T : Ty} {D : Ends} {g : TG} {i : Nat}
/-- [f(u[k], v[k]) for k in range(n)] -/
theorem ed_lcRZ {vs : List Nat} {n : Nat} {tg : TA} {u v : List Int} (hu : u.length = n) (hv : v.length = n) (h : EA K M tg σ H [.int (n : Int)]) (hl : n ≤ 1000) (f : Int → Int → Int) (hw : ∀ x, wipe ((wipe σ vs).set i (some x)) vs = wipe σ vs)
    (he : ∀ M' H' (a : Nat), Ex (hide M H) (hide M' H') → MOk M' H' → a < n → ED K M' te ((wipe σ vs).set i (some (.int (a : Int)))) H' (.int (f (WM.at_ u a) (WM.at_ v a)))) :
    ED K M (tLc (iRng1 tg) (gName i) tYes te vs) σ H (.list ((List.zipWith f u v).map .int)) :=
  (ed_lcR1 h (by omega) (fun k => .int (f (WM.at_ u k) (WM.at_ v k))) hw he).to (by rw [← WM.range_zip f hu hv, List.map_map]; rfl)
/-- any dict is not asked here: a loop's end -/
theorem lenV' {v : List Int} (h : ED K M te σ H (dV v)) : ED K M (tCB (fun xs H Q => ∃ x n, xs = [x] ∧ LenV K x H n ∧ Q (.int n) H) (tCons te tNil)) σ H (.int (v.length : Int)) := (ed_lenU h).to (by rw [List.length_map])
end
section
variable {w : World} {K : PySem.W.Frag} {mg : Str → Option Value} {base : Heap}
abbrev N_law_product : List Str := ["_law_modulus", "_law_one", "_law_other", "_law_k"]
theorem sc_law_product : FnScope N_law_product ["_law_modulus", "_law_one", "_law_other"] d_law_product.scope := ⟨rfl, rfl, rfl, by decide +kernel, rfl, by decide +kernel, by decide +kernel⟩
theorem bi_law_product (kV doc pm : Value) (an : Option Addr) (cdv ct : Value) (us : List Value) (hl : us.length = 3) : bindArgs (PySem.W.fnOf d_law_product.name d_law_product.qual d_law_product.params d_law_product.body d_law_product.scope .none kV doc pm an cdv ct) ⟨us, []⟩ = pure ((["_law_modulus", "_law_one", "_law_other"] : List Str).zip us) := by
  match us, hl with
  | [_, _, _], _ => rfl

def R_law_product (K : PySem.W.Frag) (Ts : List Ty) (T : Ty) : Prop := ∃ (m : Int) (one other : List Int), Ts = [tI K m, tV K one, tV K other] ∧ Sm one ∧ one.length = other.length ∧ 0 < m ∧ T = tI K (WM.dot one (WM.at_ other) % m)
theorem cal_law_product (G : Glb w K mg base) : C8.Cal PP w K mg base 1 "_law_product" (SpT (R_law_product K)) [] :=
  cal_mk G 56 (d := d_law_product) rfl rfl G.g_law_product rfl sc_law_product (spT_len fun Ts T ⟨_, _, _, h, _⟩ => by rw [h]; rfl) bi_law_product (fun f cdv A outer s H vs Q E hr hsp => by
    obtain ⟨M, Ts, T, hM, hv, ⟨m, one, other, rfl, hs, hl, hm, rfl⟩, hq⟩ := hsp
    obtain ⟨v1, v2, v3, rfl, h1, h2, h3⟩ := allT3 hv
    refine ⟨_, (pss_one (ps_ret (pe_op op_mod (pe_callB (id := "sum") (cr_sum rfl) (by rfl) G.f_sum (by decide +kernel) (pa_cons (pe_lc (own := [("_law_k", 3)]) (g := (gName 3)) (tt := tYes) rfl sc_law_product.nd (pi_range1 (by rfl) G.f_range (pa_cons (pe_callB (id := "len") call_len (by rfl) G.f_len (by decide +kernel) (pa_cons (pv 1) pa_nil)) pa_nil)) (blkOk_by (N := N_law_product) (sc := d_law_product.scope) (by decide +kernel)) (fun _ _ _ _ _ => (pg_name (i := 3) sc_law_product.nd rfl (by first | exact Or.inl rfl | exact Or.inr rfl))) (fun _ _ _ _ _ => pts_nil) (fun _ _ _ _ _ => (pe_op op_mul (pe_ix (ix_tupK (K := K) rfl) (pv 1) (pv 3) (fun _ _ => rfl)) (pe_ix (ix_tupK (K := K) rfl) (pv 2) (pv 3) (fun _ _ => rfl))))) pa_nil)) (pv 0)))), ?_⟩
    refine sd_ret hM (ed_mod hm (ed_sum (ns := List.zipWith (fun a b => a * b) one other) (ed_lcRZ (n := one.length) rfl hl.symm (ea_one (lenV' (ed_var rfl h2))) hs.1 _ (fun _ => rfl) fun M' H' a ex hM' ha => ?_)) (ed_var rfl h1)) fun v H1 e h => hq v H1 e (by rw [← WM.dot_list]; exact h)
    exact ed_mul (cmulL (hs.2 _ (WM.at_mem ha))) (ed_at ha (ed_var rfl (h2.mono ex)) (ed_varI rfl)) (ed_at (by omega) (ed_var rfl (h3.mono ex)) (ed_varI rfl)))
abbrev N_law_gcd : List Str := ["_law_one", "_law_other"]
theorem sc_law_gcd : FnScope N_law_gcd ["_law_one", "_law_other"] d_law_gcd.scope := ⟨rfl, rfl, rfl, by decide +kernel, rfl, by decide +kernel, by decide +kernel⟩
theorem bi_law_gcd (kV doc pm : Value) (an : Option Addr) (cdv ct : Value) (us : List Value) (hl : us.length = 2) : bindArgs (PySem.W.fnOf d_law_gcd.name d_law_gcd.qual d_law_gcd.params d_law_gcd.body d_law_gcd.scope .none kV doc pm an cdv ct) ⟨us, []⟩ = pure ((["_law_one", "_law_other"] : List Str).zip us) := by
  match us, hl with
  | [_, _], _ => rfl

def R_law_gcd (K : PySem.W.Frag) (Ts : List Ty) (T : Ty) : Prop := ∃ a b : Int, Ts = [tI K a, tI K b] ∧ 0 ≤ a ∧ 0 ≤ b ∧ T = tI K (Int.gcd a b : Int)
theorem cal_law_gcd (G : Glb w K mg base) : C8.Cal PP w K mg base 1 "_law_gcd" (SpT (R_law_gcd K)) [] :=
  cal_mk G 62 (d := d_law_gcd) rfl rfl G.g_law_gcd rfl sc_law_gcd (spT_len fun Ts T ⟨_, _, h, _⟩ => by rw [h]; rfl) bi_law_gcd (fun f cdv A outer s H vs Q E hr hsp => by
    obtain ⟨M, Ts, T, hM, hv, ⟨a, b, rfl, ha, hb, rfl⟩, hq⟩ := hsp
    obtain ⟨v1, v2, rfl, h1, h2⟩ := allT2 hv
    cases dp_int h1
    cases dp_int h2
    refine ⟨_, (pss_cons (ps_while PassesOwn.never (pt_cmpR op_gt (pv 1) pe_int (nomark _)) (pss_one (ps_par (i := 0) (j := 1) (by rfl) sc_law_gcd.nd rfl rfl (by decide) rfl rfl (pa_cons (pv 1) (pa_cons (pe_op op_mod (pv 0) (pv 1)) pa_nil)) (by rfl))))
      (pss_one (ps_ret (pv 0)))), ?_⟩
    refine s_while (fun k σ' H' => ∃ x y : Int, Ex H H' ∧ 0 ≤ x ∧ 0 ≤ y ∧ Int.gcd x y = Int.gcd a b ∧ σ' = [some (.int x), some (.int y)] ∧ k = y.toNat) b.toNat ⟨a, b, Ex.refl _, ha, hb, rfl, rfl, rfl⟩ ?_
    rintro k σ' H' ⟨x, y, e, hx, hy, hg, rfl, rfl⟩
    refine ⟨M, _, hM.ex e, et_test (ed_cmp (K := K) (ed_varI rfl) ed_int), fun hb H2 e2 => ?_, fun hb H2 e2 => ?_⟩
    · simp at hb
      refine sd_par (K := K) (hM.ex (e.trans e2)) (ea_cons (ed_varI rfl) (ea_one (ed_mod hb (ed_varI rfl) (ed_varI rfl)))) fun u v H3 e3 hu hv => ?_
      cases dp_int hu
      cases dp_int hv
      have h1 := Int.emod_nonneg x (by omega : y ≠ 0)
      have h2 := Int.emod_lt_of_pos x hb
      refine ⟨(x % y).toNat, by omega, y, x % y, (e.trans e2).trans e3, hy, h1, ?_, rfl, rfl⟩
      have e0 : x % y = x - x / y * y := by have := Int.ediv_mul_add_emod x y; omega
      rw [e0, Int.gcd_sub_mul_right_right, Int.gcd_comm, hg]
    · simp at hb
      have : y = 0 := by omega
      subst this
      refine sd_ret (K := K) (hM.ex (e.trans e2)) (ed_varI rfl) fun v H3 e3 h => hq v H3 ((e.trans e2).trans e3) ?_
      rw [← hg, Int.gcd_zero_right]
      have : ((x.natAbs : Nat) : Int) = x := by omega
      rw [this]
      exact h)
abbrev N_law_divisors : List Str := ["_law_number", "_law_one"]
theorem sc_law_divisors : FnScope N_law_divisors ["_law_number"] d_law_divisors.scope := ⟨rfl, rfl, rfl, by decide +kernel, rfl, by decide +kernel, by decide +kernel⟩
theorem bi_law_divisors (kV doc pm : Value) (an : Option Addr) (cdv ct : Value) (us : List Value) (hl : us.length = 1) : bindArgs (PySem.W.fnOf d_law_divisors.name d_law_divisors.qual d_law_divisors.params d_law_divisors.body d_law_divisors.scope .none kV doc pm an cdv ct) ⟨us, []⟩ = pure ((["_law_number"] : List Str).zip us) := by
  match us, hl with
  | [_], _ => rfl

def R_law_divisors (K : PySem.W.Frag) (Ts : List Ty) (T : Ty) : Prop := ∃ n : Nat, Ts = [tI K n] ∧ n ≤ 1000 ∧ T = dat K (.list ((WM.divs n).map .int))
theorem cal_law_divisors (G : Glb w K mg base) : C8.Cal PP w K mg base 1 "_law_divisors" (SpT (R_law_divisors K)) [] :=
  cal_mk G 51 (d := d_law_divisors) rfl rfl G.g_law_divisors rfl sc_law_divisors (spT_len fun Ts T ⟨_, h, _⟩ => by rw [h]; rfl) bi_law_divisors (fun f cdv A outer s H vs Q E hr hsp => by
    obtain ⟨M, Ts, T, hM, hv, ⟨n, rfl, hn, rfl⟩, hq⟩ := hsp
    obtain ⟨v1, rfl, h1⟩ := allT1 hv
    cases dp_int h1
    refine ⟨_, (pss_one (ps_ret (pe_lc (own := [("_law_one", 1)]) (g := (gName 1)) (tt := _) rfl sc_law_divisors.nd (pi_range2 (by rfl) G.f_range (pa_cons pe_int (pa_cons (pe_op op_add (pv 0) pe_int) pa_nil))) (blkOk_by (N := N_law_divisors) (sc := d_law_divisors.scope) (by decide +kernel)) (fun _ _ _ _ _ => (pg_name (i := 1) sc_law_divisors.nd rfl (by first | exact Or.inl rfl | exact Or.inr rfl))) (fun _ _ _ _ _ => (pts_one (pt_cmpR op_eq (pe_op op_mod (pv 0) (pv 1)) pe_int (nomark _)))) (fun _ _ _ _ _ => (pv 1))))), ?_⟩
    refine sd_ret (K := K) hM ((ed_lc (K := K) (ei_r2 (K := K) (lo := 1) (hi := (n : Int) + 1) (by omega) (by omega) (ea_cons ed_int (ea_one (ed_add (ed_varI rfl) ed_int)))) (by simp; omega) (fun i : Nat => decide ((n : Int) % (1 + (i : Int)) = 0)) (fun i : Nat => .int (1 + (i : Int))) fun M' H' x a k ex hM' hi hx => ?_).to ?_) fun v H1 e h => hq v H1 e h
    · cases dp_int hx
      exact turn_name rfl (et_test (ed_eqI (K := K) (ed_mod (by omega) (ed_varI rfl) (ed_varI rfl)) ed_int)) fun _ => (ed_varI (K := K) rfl).eg
    · have : ((n : Int) + 1 - 1).toNat = n := by omega
      rw [this, WM.divs, List.map_map]
      rfl)
abbrev N_law_divisor : List Str := ["_law_modulus", "_law_weights", "_law_members_here", "_law_found", "_law_one"]
theorem sc_law_divisor : FnScope N_law_divisor ["_law_modulus", "_law_weights", "_law_members_here"] d_law_divisor.scope := ⟨rfl, rfl, rfl, by decide +kernel, rfl, by decide +kernel, by decide +kernel⟩
theorem bi_law_divisor (kV doc pm : Value) (an : Option Addr) (cdv ct : Value) (us : List Value) (hl : us.length = 3) : bindArgs (PySem.W.fnOf d_law_divisor.name d_law_divisor.qual d_law_divisor.params d_law_divisor.body d_law_divisor.scope .none kV doc pm an cdv ct) ⟨us, []⟩ = pure ((["_law_modulus", "_law_weights", "_law_members_here"] : List Str).zip us) := by
  match us, hl with
  | [_, _, _], _ => rfl

def R_law_divisor (K : PySem.W.Frag) (Ts : List Ty) (T : Ty) : Prop := ∃ (m : Int) (w : List Int) (xs : List (List Int)) (n : Nat), Ts = [tI K m, tV K w, dat K (dL xs)] ∧ 0 < m ∧ Sm w ∧ w.length = n ∧ (∀ x ∈ xs, x.length = n) ∧ T = tI K (WM.gcdL m (xs.map fun x => WM.dot w (WM.at_ x) % m))
theorem cal_law_divisor (G : Glb w K mg base) : C8.Cal PP w K mg base 2 "_law_divisor" (SpT (R_law_divisor K)) [] :=
  cal_mk G 72 (d := d_law_divisor) rfl rfl G.g_law_divisor rfl sc_law_divisor (spT_len fun Ts T ⟨_, _, _, _, h, _⟩ => by rw [h]; rfl) bi_law_divisor (fun f cdv A outer s H vs Q E hr hsp => by
    obtain ⟨M, Ts, T, hM, hv, ⟨m, w, xs, n, rfl, hm, hw, hwl, hxl, rfl⟩, hq⟩ := hsp
    obtain ⟨v1, v2, v3, rfl, h1, h2, h3⟩ := allT3 hv
    cases dp_int h1
    refine ⟨_, (pss_cons (ps_set (i := 3) sc_law_divisor.nd rfl (by first | exact Or.inl rfl | exact Or.inr rfl) (pv 0))
      (pss_cons (ps_for PassesOwn.never rfl (pi_list (pv 2)) (pg_name (i := 4) sc_law_divisor.nd rfl (by first | exact Or.inl rfl | exact Or.inr rfl)) (pss_one (ps_set (i := 3) sc_law_divisor.nd rfl (by first | exact Or.inl rfl | exact Or.inr rfl) (C8.pe_c (cal_law_gcd G) hr (by decide) (by rfl) (pa_cons (pv 3) (pa_cons (C8.pe_c (cal_law_product G) hr (by decide) (by rfl) (pa_cons (pv 0) (pa_cons (pv 1) (pa_cons (pv 4) pa_nil)))) pa_nil))))))
      (pss_one (ps_ret (pv 3))))), ?_⟩
    refine sd_set (K := K) hM (ed_varI rfl) fun v4 H1 e1 h4 => ?_
    cases dp_int h4
    dsimp only
    refine s_forP (hM.ex e1) (ei_ld (K := K) (src := xs) (f := dV) (ed_var rfl (h3.mono (hide_ex e1)))) (fun i σ' H' => ∃ y, σ' = [some (.int m), some v2, some v3, some (.int (WM.gcdL m ((xs.take i).map fun x => WM.dot w (WM.at_ x) % m))), y]) (fun H2 e => ⟨none, rfl⟩) ?_ ?_
    · rintro H2 i x vx σ' H' H3 e2 e3 hi ⟨y, rfl⟩ e4 hx
      have e := ((e1.trans e2).trans e3).trans e4
      have hg := gcdL_le hm ((xs.take i).map fun x => WM.dot w (WM.at_ x) % m)
      have hmem := List.mem_of_getElem? hi
      refine sd_set (K := K) (hM.ex e) (ed_call (R := R_law_gcd K) (ega_d (ed_varI rfl) (ega_d (ed_call (R := R_law_product K) (ega_d (ed_varI rfl) (ega_d (ed_var rfl (h2.mono (hide_ex e))) (ega_d (ed_var rfl hx) ega_nil))) ⟨m, w, x, rfl, hw, by rw [hwl, hxl x hmem], hm, rfl⟩) ega_nil)) ⟨_, _, rfl, by omega, Int.emod_nonneg _ (by omega), rfl⟩) fun v H5 e5 h5 => ?_
      cases dp_int h5
      refine ⟨(e3.trans e4).trans e5, some vx, ?_⟩
      have : xs.take (i + 1) = xs.take i ++ [x] := by rw [List.take_add_one, hi]; rfl
      rw [this, List.map_append, List.map_singleton, gcdL_snoc, gcd_comm']
      rfl
    · rintro σ' H' e ⟨y, rfl⟩
      dsimp only
      refine sd_ret (K := K) (hM.ex (e1.trans e)) (ed_varI rfl) fun v H2 e2 h => hq v H2 ((e1.trans e).trans e2) ?_
      rw [List.take_length] at h
      exact h)
abbrev N_law_reduced : List Str := ["_law_modulus", "_law_table", "_law_vector_here", "_law_row", "_law_index", "_law_times", "_law_k"]
theorem sc_law_reduced : FnScope N_law_reduced ["_law_modulus", "_law_table", "_law_vector_here"] d_law_reduced.scope := ⟨rfl, rfl, rfl, by decide +kernel, rfl, by decide +kernel, by decide +kernel⟩
theorem bi_law_reduced (kV doc pm : Value) (an : Option Addr) (cdv ct : Value) (us : List Value) (hl : us.length = 3) : bindArgs (PySem.W.fnOf d_law_reduced.name d_law_reduced.qual d_law_reduced.params d_law_reduced.body d_law_reduced.scope .none kV doc pm an cdv ct) ⟨us, []⟩ = pure ((["_law_modulus", "_law_table", "_law_vector_here"] : List Str).zip us) := by
  match us, hl with
  | [_, _, _], _ => rfl

def R_law_reduced (K : PySem.W.Frag) (Ts : List Ty) (T : Ty) : Prop := ∃ (m : Int) (n : Nat) (L : WM.Pv) (v : List Int), Ts = [tI K m, dat K (dL (L.map Prod.snd)), tV K v] ∧ 0 < m ∧ m < 2 ^ 29 ∧ n ≤ 1000 ∧ WM.Vec m n v ∧ (∀ k r, (k, r) ∈ L → WM.Row m n k r) ∧ T = tV K (WM.red m L v)
theorem cal_law_reduced (G : Glb w K mg base) : C8.Cal PP w K mg base 1 "_law_reduced" (SpT (R_law_reduced K)) [] :=
  cal_mk G 66 (d := d_law_reduced) rfl rfl G.g_law_reduced rfl sc_law_reduced (spT_len fun Ts T ⟨_, _, _, _, h, _⟩ => by rw [h]; rfl) bi_law_reduced (fun f cdv A outer s H vs Q E hr hsp => by
    obtain ⟨M, Ts, T, hM, hv, ⟨m, n, L, v, rfl, hm, hm2, hn, hvec, hrow, rfl⟩, hq⟩ := hsp
    obtain ⟨v1, v2, v3, rfl, h1, h2, h3⟩ := allT3 hv
    cases dp_int h1
    have h2 : Dp K (hide M H) v2 (.list (L.map fun q => dV q.2)) := by
      have : (L.map fun q => dV q.2) = (L.map Prod.snd).map dV := by rw [List.map_map]; rfl
      rw [this]; exact h2
    refine ⟨_, (pss_cons (ps_for PassesOwn.never rfl (pi_list (pv 1)) (pg_name (i := 3) sc_law_reduced.nd rfl (by first | exact Or.inl rfl | exact Or.inr rfl)) (pss_cons (ps_set (i := 4) sc_law_reduced.nd rfl (by first | exact Or.inl rfl | exact Or.inr rfl) (pe_ix ix_list (pe_lc (own := [("_law_k", 6)]) (g := (gName 6)) (tt := _) rfl sc_law_reduced.nd (pi_range1 (by rfl) G.f_range (pa_cons (pe_callB (id := "len") call_len (by rfl) G.f_len (by decide +kernel) (pa_cons (pv 3) pa_nil)) pa_nil)) (blkOk_by (N := N_law_reduced) (sc := d_law_reduced.scope) (by decide +kernel)) (fun _ _ _ _ _ => (pg_name (i := 6) sc_law_reduced.nd rfl (by first | exact Or.inl rfl | exact Or.inr rfl))) (fun _ _ _ _ _ => (pts_one (pt_cmpR op_gt (pe_ix (ix_tupK (K := K) rfl) (pv 3) (pv 6) (fun _ _ => rfl)) pe_int (nomark _)))) (fun _ _ _ _ _ => (pv 6))) pe_int (fun _ _ => rfl)))
      (pss_cons (ps_set (i := 5) sc_law_reduced.nd rfl (by first | exact Or.inl rfl | exact Or.inr rfl) (pe_op op_fdiv (pe_ix ix_tup (pv 2) (pv 4) (fun _ _ => rfl)) (pe_ix ix_tup (pv 3) (pv 4) (fun _ _ => rfl))))
      (pss_one (ps_set (i := 2) sc_law_reduced.nd rfl (by first | exact Or.inl rfl | exact Or.inr rfl) (pe_callTy (T := "tuple") call_tuple_of (by rfl) G.f_tuple (by decide +kernel) (pa_cons (pe_lc (own := [("_law_k", 6)]) (g := (gName 6)) (tt := tYes) rfl sc_law_reduced.nd (pi_range1 (by rfl) G.f_range (pa_cons (pe_callB (id := "len") call_len (by rfl) G.f_len (by decide +kernel) (pa_cons (pv 3) pa_nil)) pa_nil)) (blkOk_by (N := N_law_reduced) (sc := d_law_reduced.scope) (by decide +kernel)) (fun _ _ _ _ _ => (pg_name (i := 6) sc_law_reduced.nd rfl (by first | exact Or.inl rfl | exact Or.inr rfl))) (fun _ _ _ _ _ => pts_nil) (fun _ _ _ _ _ => (pe_op op_mod (pe_op op_sub (pe_ix (ix_tupK (K := K) rfl) (pv 2) (pv 6) (fun _ _ => rfl)) (pe_op op_mul (pv 5) (pe_ix (ix_tupK (K := K) rfl) (pv 3) (pv 6) (fun _ _ => rfl)))) (pv 0)))) pa_nil)))))))
      (pss_one (ps_ret (pv 2)))), ?_⟩
    refine s_forP hM (ei_ld (K := K) (src := L) (f := fun q => dV q.2) (ed_var rfl h2)) (fun i σ' H' => ∃ u x y z t, σ' = [some (.int m), some v2, some u, x, y, z, t] ∧ Dp K (hide M H') u (dV (WM.red m (L.take i) v))) (fun H1 e => ⟨v3, none, none, none, none, rfl, h3.mono (hide_ex e)⟩) ?_ ?_
    · rintro H1 i ⟨k, r⟩ x σ' H' H2 e1 e2 hi ⟨u, x0, y0, z0, t0, rfl, hu⟩ e3 hx
      have e := (e1.trans e2).trans e3
      have hmem := List.mem_of_getElem? hi
      have R := hrow k r hmem
      have hu := hu.mono (hide_ex e3)
      have V := WM.red_vec hm (L := L.take i) (fun k r h => hrow k r (List.mem_of_mem_take h)) hvec
      have hRl : k < r.length := by rw [R.len]; exact R.lt
      have hle : WM.at_ r k ≤ m := Int.le_of_dvd hm R.dvd
      have hx : Dp K (hide M H2) x (dV r) := hx
      refine sd_set (K := K) (d := .int (k : Int)) (hM.ex e) (ed_ixL (ds := (((List.range n).filter fun i : Nat => decide (WM.at_ r i > 0)).map fun i : Nat => PyData.int (i : Int))) (atI_nat' (k := 0) (by rw [List.getElem?_map, WM.first_pos R.lt R.zer R.pos]; rfl)) (ed_lcR (n := n) (ea_one ((lenV' (ed_var rfl hx)).to (by rw [R.len]))) (by omega) (fun i : Nat => decide (WM.at_ r i > 0)) (fun i : Nat => .int (i : Int)) (fun _ => rfl)
        (fun M' H' a ex hM' ha => et_test (ed_cmp (K := K) (ed_at (by rw [R.len]; exact ha) (ed_var rfl (hx.mono ex)) (ed_varI rfl)) ed_int)) fun M' H' a ex hM' ha _ => ed_varI rfl) ed_int) fun vk H3 e4 hk => ?_
      cases dp_int hk
      dsimp only
      have e03 := e.trans e4
      have hu3 := hu.mono (hide_ex (M := M) e4)
      have hx3 := hx.mono (hide_ex (M := M) e4)
      refine sd_set (K := K) (hM.ex e03) (ed_fdiv ⟨R.pos, by omega⟩ (ed_at (by rw [V.len]; exact R.lt) (ed_var rfl hu3) (ed_varI rfl)) (ed_at hRl (ed_var rfl hx3) (ed_varI rfl))) fun vt H4 e5 ht => ?_
      cases dp_int ht
      dsimp only
      have e04 := e03.trans e5
      have hu4 := hu3.mono (hide_ex (M := M) e5)
      have hx4 := hx3.mono (hide_ex (M := M) e5)
      refine sd_set (K := K) (hM.ex e04) (ed_vec (ed_lcRZ (n := n) V.len R.len (ea_one ((lenV' (ed_var rfl hx4)).to (by rw [R.len]))) hn (fun a b => (a - WM.at_ (WM.red m (L.take i) v) k / WM.at_ r k * b) % m) (fun _ => rfl) fun M' H' a ex hM' ha => ?_)) fun w1 H5 e6 h5 => ⟨((e2.trans e3).trans (e4.trans (e5.trans e6))), w1, _, _, _, _, rfl, ?_⟩
      · have hra := R.toVec.at hm a
        exact ed_mod hm (ed_sub (ed_at (by rw [V.len]; exact ha) (ed_var rfl (hu4.mono ex)) (ed_varI rfl)) (ed_mul (cmulR (by omega)) (ed_varI rfl) (ed_at (by rw [R.len]; exact ha) (ed_var rfl (hx4.mono ex)) (ed_varI rfl)))) (ed_varI rfl)
      · have : L.take (i + 1) = L.take i ++ [(k, r)] := by rw [List.take_add_one, hi]; rfl
        rw [this, red_app]
        rw [WM.zip_comb'] at h5
        exact h5
    · rintro σ' H' e ⟨u, x0, y0, z0, t0, rfl, hu⟩
      dsimp only
      refine sd_ret (hM.ex e) (ed_var (K := K) rfl hu) fun v H2 e2 h => hq v H2 (e.trans e2) ?_
      rw [List.take_length] at h
      exact h)
abbrev N_law_size : List Str := ["_law_modulus", "_law_table", "_law_found", "_law_row", "_law_entry"]
theorem sc_law_size : FnScope N_law_size ["_law_modulus", "_law_table"] d_law_size.scope := ⟨rfl, rfl, rfl, by decide +kernel, rfl, by decide +kernel, by decide +kernel⟩
theorem bi_law_size (kV doc pm : Value) (an : Option Addr) (cdv ct : Value) (us : List Value) (hl : us.length = 2) : bindArgs (PySem.W.fnOf d_law_size.name d_law_size.qual d_law_size.params d_law_size.body d_law_size.scope .none kV doc pm an cdv ct) ⟨us, []⟩ = pure ((["_law_modulus", "_law_table"] : List Str).zip us) := by
  match us, hl with
  | [_, _], _ => rfl

def R_law_size (K : PySem.W.Frag) (Ts : List Ty) (T : Ty) : Prop := ∃ (m : Int) (n : Nat) (L : WM.Pv), Ts = [tI K m, dat K (dL (L.map Prod.snd))] ∧ 0 < m ∧ m < 2 ^ 29 ∧ n ≤ 1000 ∧ (∀ k r, (k, r) ∈ L → WM.Row m n k r) ∧ T = tI K (WM.sz m L)
theorem cal_law_size (G : Glb w K mg base) : C8.Cal PP w K mg base 1 "_law_size" (SpT (R_law_size K)) [] :=
  cal_mk G 67 (d := d_law_size) rfl rfl G.g_law_size rfl sc_law_size (spT_len fun Ts T ⟨_, _, _, h, _⟩ => by rw [h]; rfl) bi_law_size (fun f cdv A outer s H vs Q E hr hsp => by
    obtain ⟨M, Ts, T, hM, hv, ⟨m, n, L, rfl, hm, hm2, hn, hrow, rfl⟩, hq⟩ := hsp
    obtain ⟨v1, v2, rfl, h1, h2⟩ := allT2 hv
    cases dp_int h1
    have h2 : Dp K (hide M H) v2 (.list (L.map fun q => dV q.2)) := by
      have : (L.map fun q => dV q.2) = (L.map Prod.snd).map dV := by rw [List.map_map]; rfl
      rw [this]; exact h2
    refine ⟨_, (pss_cons (ps_set (i := 2) sc_law_size.nd rfl (by first | exact Or.inl rfl | exact Or.inr rfl) pe_int)
      (pss_cons (ps_for PassesOwn.never rfl (pi_list (pv 1)) (pg_name (i := 3) sc_law_size.nd rfl (by first | exact Or.inl rfl | exact Or.inr rfl)) (pss_one (ps_set (i := 2) sc_law_size.nd rfl (by first | exact Or.inl rfl | exact Or.inr rfl) (pe_op op_mul (pv 2) (pe_op op_fdiv (pv 0) (pe_ix ix_list (pe_lc (own := [("_law_entry", 4)]) (g := (gName 4)) (tt := _) rfl sc_law_size.nd (pi_tup (pv 3)) (blkOk_by (N := N_law_size) (sc := d_law_size.scope) (by decide +kernel)) (fun _ _ _ _ _ => (pg_name (i := 4) sc_law_size.nd rfl (by first | exact Or.inl rfl | exact Or.inr rfl))) (fun _ _ _ _ _ => (pts_one (pt_cmpR op_gt (pv 4) pe_int (nomark _)))) (fun _ _ _ _ _ => (pv 4))) pe_int (fun _ _ => rfl)))))))
      (pss_one (ps_ret (pv 2))))), ?_⟩
    refine sd_set (K := K) hM ed_int fun v3 H1 e1 h3 => ?_
    cases dp_int h3
    dsimp only
    refine s_forP (hM.ex e1) (ei_ld (K := K) (src := L) (f := fun q => dV q.2) (ed_var rfl (h2.mono (hide_ex e1)))) (fun i σ' H' => ∃ x y, σ' = [some (.int m), some v2, some (.int (WM.sz m (L.take i))), x, y]) (fun H2 e => ⟨none, none, rfl⟩) ?_ ?_
    · rintro H2 i ⟨k, r⟩ x σ' H' H3 e2 e3 hi ⟨x0, y0, rfl⟩ e4 hx
      have e := ((e1.trans e2).trans e3).trans e4
      have R := hrow k r (List.mem_of_getElem? hi)
      have hle : WM.at_ r k ≤ m := Int.le_of_dvd hm R.dvd
      have hRl : k < r.length := by rw [R.len]; exact R.lt
      have hx : Dp K (hide M H3) x (.tuple (r.map .int)) := hx
      have hdiv : 0 ≤ m / WM.at_ r k ∧ m / WM.at_ r k ≤ m := ⟨Int.ediv_nonneg (by omega) (by have := R.pos; omega), Int.ediv_le_self _ (by omega)⟩
      refine sd_set (K := K) (hM.ex e) (ed_mul (cmulR (by omega)) (ed_varI rfl) (ed_fdiv ⟨R.pos, by omega⟩ (ed_varI rfl) (ed_ixL (d := .int (WM.at_ r k)) (ds := (r.filter fun a => decide (a > 0)).map .int) (atI_nat' (k := 0) (by rw [List.getElem?_map, WM.first_entry hRl R.zer R.pos]; rfl)) (ed_lcT (src := r) (g := fun a => .int a) (ed_var rfl hx) (by have := R.len; omega) (fun a => decide (a > 0)) (fun a => .int a) (fun _ => rfl)
        (fun M' H' y a ex hM' ha hy => et_test (ed_cmp (K := K) (ed_var rfl hy) ed_int)) fun M' H' y a ex hM' ha _ hy => ed_var rfl hy) ed_int))) fun v H5 e5 h5 => ?_
      cases dp_int h5
      refine ⟨(e3.trans e4).trans e5, some x, y0, ?_⟩
      have : L.take (i + 1) = L.take i ++ [(k, r)] := by rw [List.take_add_one, hi]; rfl
      rw [this, sz_snoc]
      rfl
    · rintro σ' H' e ⟨x0, y0, rfl⟩
      dsimp only
      refine sd_ret (K := K) (hM.ex (e1.trans e)) (ed_varI rfl) fun v H2 e2 h => hq v H2 ((e1.trans e).trans e2) ?_
      rw [List.take_length] at h
      exact h)
abbrev N_law_within : List Str := ["_law_modulus", "_law_table", "_law_base", "_law_one", "_law_difference", "_law_k"]
theorem sc_law_within : FnScope N_law_within ["_law_modulus", "_law_table", "_law_base", "_law_one"] d_law_within.scope := ⟨rfl, rfl, rfl, by decide +kernel, rfl, by decide +kernel, by decide +kernel⟩
theorem bi_law_within (kV doc pm : Value) (an : Option Addr) (cdv ct : Value) (us : List Value) (hl : us.length = 4) : bindArgs (PySem.W.fnOf d_law_within.name d_law_within.qual d_law_within.params d_law_within.body d_law_within.scope .none kV doc pm an cdv ct) ⟨us, []⟩ = pure ((["_law_modulus", "_law_table", "_law_base", "_law_one"] : List Str).zip us) := by
  match us, hl with
  | [_, _, _, _], _ => rfl

def R_law_within (K : PySem.W.Frag) (Ts : List Ty) (T : Ty) : Prop := ∃ (m : Int) (n : Nat) (L : WM.Pv) (b x : List Int), Ts = [tI K m, dat K (dL (L.map Prod.snd)), tV K b, tV K x] ∧ 0 < m ∧ m < 2 ^ 29 ∧ 1 ≤ n ∧ n ≤ 1000 ∧ WM.Vec m n b ∧ WM.Vec m n x ∧ (∀ k r, (k, r) ∈ L → WM.Row m n k r) ∧ T = tB K (decide (WM.red m L (WM.comb m 1 x (-1) b) = zeros n))
theorem cal_law_within (G : Glb w K mg base) : C8.Cal PP w K mg base 2 "_law_within" (SpT (R_law_within K)) [] :=
  cal_mk G 78 (d := d_law_within) rfl rfl G.g_law_within rfl sc_law_within (spT_len fun Ts T ⟨_, _, _, _, _, h, _⟩ => by rw [h]; rfl) bi_law_within (fun f cdv A outer s H vs Q E hr hsp => by
    obtain ⟨M, Ts, T, hM, hv, ⟨m, n, L, b, x, rfl, hm, hm2, hn1, hn, hb, hx, hrow, rfl⟩, hq⟩ := hsp
    obtain ⟨v1, v2, v3, v4, rfl, h1, h2, h3, h4⟩ := allT4 hv
    cases dp_int h1
    refine ⟨_, (pss_cons (ps_set (i := 4) sc_law_within.nd rfl (by first | exact Or.inl rfl | exact Or.inr rfl) (pe_callTy (T := "tuple") call_tuple_of (by rfl) G.f_tuple (by decide +kernel) (pa_cons (pe_lc (own := [("_law_k", 5)]) (g := (gName 5)) (tt := tYes) rfl sc_law_within.nd (pi_range1 (by rfl) G.f_range (pa_cons (pe_callB (id := "len") call_len (by rfl) G.f_len (by decide +kernel) (pa_cons (pv 2) pa_nil)) pa_nil)) (blkOk_by (N := N_law_within) (sc := d_law_within.scope) (by decide +kernel)) (fun _ _ _ _ _ => (pg_name (i := 5) sc_law_within.nd rfl (by first | exact Or.inl rfl | exact Or.inr rfl))) (fun _ _ _ _ _ => pts_nil) (fun _ _ _ _ _ => (pe_op op_mod (pe_op op_sub (pe_ix (ix_tupK (K := K) rfl) (pv 3) (pv 5) (fun _ _ => rfl)) (pe_ix (ix_tupK (K := K) rfl) (pv 2) (pv 5) (fun _ _ => rfl))) (pv 0)))) pa_nil)))
      (pss_one (ps_ret (pe_cmpR (op_eqD hr.units) (C8.pe_c (cal_law_reduced G) hr (by decide) (by rfl) (pa_cons (pv 0) (pa_cons (pv 1) (pa_cons (pv 4) pa_nil)))) (pe_op op_repTA (pe_tup (pa_cons pe_int pa_nil)) (pe_callB (id := "len") call_len (by rfl) G.f_len (by decide +kernel) (pa_cons (pv 2) pa_nil))) (nomark _))))), ?_⟩
    refine sd_set (K := K) hM (ed_vec (ed_lcRZ (n := n) hx.len hb.len (ea_one ((lenV' (ed_var rfl h3)).to (by rw [hb.len]))) hn (fun a b => (a - b) % m) (fun _ => rfl) fun M' H' a ex hM' ha => ed_mod hm (ed_sub (ed_at (by rw [hx.len]; exact ha) (ed_var rfl (h4.mono ex)) (ed_varI rfl)) (ed_at (by rw [hb.len]; exact ha) (ed_var rfl (h3.mono ex)) (ed_varI rfl))) (ed_varI rfl))) fun v5 H1 e1 h5 => ?_
    rw [WM.zip_sub] at h5
    dsimp only
    refine sd_ret (K := K) (hM.ex e1) (ed_eqD (shaped_dV _) (shaped_dV _) (ed_call (R := R_law_reduced K) (ega_d (ed_varI rfl) (ega_d (ed_var rfl (Dp.mono h2 (hide_ex e1))) (ega_d (ed_var rfl h5) ega_nil))) ⟨m, n, L, _, rfl, hm, hm2, hn, WM.Vec.comb hm hx.len hb.len, hrow, rfl⟩) (ed_zeros (k := n) hn1 hn ((lenV' (ed_var rfl (h3.mono (hide_ex e1)))).to (by rw [hb.len])))) fun v H2 e2 h => hq v H2 (e1.trans e2) ?_
    rw [eqv_dV] at h
    exact h)
end
end WL
end
section
set_option Elab.async false
set_option linter.all false
set_option maxRecDepth 100000
set_option maxHeartbeats 4000000
/-! D18: _law_moved, _law_look, _law_first_left. -/
namespace WL
open PySem PySem.Spec PyProof.Rows L2 Evl HeadW
section
variable {K : PySem.W.Frag} {M : List Addr} {σ : L2.St} {H H' : Hp} {te : TE} {D : Ends}
/-- name = list(t), t a vector: the copy to change -/
theorem s_listV {i : Nat} {x : List Int} (hM : MOk M H) (h : ED K M te σ H (dV x)) (k : ∀ p H1, Ex H H1 → H1 p = none → D.nx (σ.set i (some (.ref p))) (upd H1 p (.lst (x.map V.int)))) :
    tAsg (tCB (fun xs H Q => ∃ p ys, xs = [.ref p] ∧ (SqL K H p ys ∨ SqT K H p ys) ∧ ∀ l, H l = none → Q (.ref l) (upd H l (.lst ys))) (tCons te tNil)) (gName i) D σ H :=
  h hM H (Ex.refl H) _ fun v H1 e hv => by
    obtain ⟨a, ev, hs⟩ := dp_vec hv
    exact ⟨a, _, by rw [ev], .inr (ex_t (hide_sub _ _) hs), fun l hl => k l H1 e hl⟩
end
section
variable {w : World} {K : PySem.W.Frag} {mg : Str → Option Value} {base : Heap}
abbrev dWinL (w : W) : List PyData := [.str w.name, .int w.src, .int w.tgt, .int w.fac, .int w.pane, .tuple (w.moves.map dMv)]
theorem dWin_eq (w : W) : dWin w = .tuple (dWinL w) := rfl
abbrev N_law_moved : List Str := ["_law_modulus", "_law_window", "_law_one", "_law_found", "_law_source", "_law_target"]
theorem sc_law_moved : FnScope N_law_moved ["_law_modulus", "_law_window", "_law_one"] d_law_moved.scope := ⟨rfl, rfl, rfl, by decide +kernel, rfl, by decide +kernel, by decide +kernel⟩
theorem bi_law_moved (kV doc pm : Value) (an : Option Addr) (cdv ct : Value) (us : List Value) (hl : us.length = 3) : bindArgs (PySem.W.fnOf d_law_moved.name d_law_moved.qual d_law_moved.params d_law_moved.body d_law_moved.scope .none kV doc pm an cdv ct) ⟨us, []⟩ = pure ((["_law_modulus", "_law_window", "_law_one"] : List Str).zip us) := by
  match us, hl with
  | [_, _, _], _ => rfl

def R_law_moved (K : PySem.W.Frag) (Ts : List Ty) (T : Ty) : Prop := ∃ (m : Int) (n : Nat) (u : W) (x : List Int), Ts = [tI K m, dat K (dWin u), tV K x] ∧ 0 < m ∧ m < 2 ^ 29 ∧ n ≤ 1000 ∧ WM.Vec m n x ∧ u.src < n ∧ u.tgt < n ∧ T = tV K (WM.moved m u x)
theorem cal_law_moved (G : Glb w K mg base) : C8.Cal PP w K mg base 1 "_law_moved" (SpT (R_law_moved K)) [] :=
  cal_mk G 60 (d := d_law_moved) rfl rfl G.g_law_moved rfl sc_law_moved (spT_len fun Ts T ⟨_, _, _, _, h, _⟩ => by rw [h]; rfl) bi_law_moved (fun f cdv A outer s H vs Q E hr hsp => by
    obtain ⟨M, Ts, T, hM, hv, ⟨m, n, u, x, rfl, hm, hm2, hn, hx, hs, ht, rfl⟩, hq⟩ := hsp
    obtain ⟨v1, v2, v3, rfl, h1, h2, h3⟩ := allT3 hv
    cases dp_int h1
    have h2 : Dp K (hide M H) v2 (dWin u) := h2
    refine ⟨_, (pss_cons (ps_par3 (i := 3) (j := 4) (l := 5) (by rfl) sc_law_moved.nd rfl rfl rfl (by decide) (by decide) (by decide) rfl rfl rfl (pa_cons (pe_callTy (T := "list") call_list_of (by rfl) G.f_list (by decide +kernel) (pa_cons (pv 2) pa_nil)) (pa_cons (pe_ix ix_tup (pv 1) pe_int (fun _ _ => rfl)) (pa_cons (pe_ix ix_tup (pv 1) pe_int (fun _ _ => rfl)) pa_nil))) (by rfl))
      (pss_cons (ps_asg (pe_op op_mod (pe_op op_add (pe_ix ix_list (pv 3) (pv 5) (fun _ _ => rfl)) (pe_op op_mul (pe_ix ix_tup (pv 1) pe_int (fun _ _ => rfl)) (pe_ix ix_list (pv 3) (pv 4) (fun _ _ => rfl)))) (pv 0)) (pg_sub (pv 3) (pv 5) set_list))
      (pss_one (ps_ret (pe_callTy (T := "tuple") call_tuple_of (by rfl) G.f_tuple (by decide +kernel) (pa_cons (pv 3) pa_nil)))))), ?_⟩
    obtain ⟨a, rfl, ha⟩ := dp_vec h3
    refine ⟨.ref a, rfl, a, x.map V.int, rfl, .inr (ex_t (hide_sub _ _) ha), fun p hp => ?_⟩
    have hpM : p ∉ M := hM.new hp
    have f1 : Fr [] M H (p :: M) (upd H p (.lst (x.map V.int))) := (Fr.refl hM).new hp
    have hsub : ∀ a ∈ M, a ∈ p :: M := fun a ha => by simp [ha]
    have w1 := h2.mono f1.vis
    refine ed_ixT (K := K) (M := p :: M) (ds := dWinL u) (d := .int u.src) rfl (ed_var (σ := [some (.int m), some v2, some (.ref a), none, none, none]) (i := 1) rfl w1) (ed_int (i := 1)) f1.ok _ (Ex.refl _) _ fun y H2 e2 hy => ?_
    cases dp_int hy
    refine ed_ixT (K := K) (M := p :: M) (ds := dWinL u) (d := .int u.tgt) rfl (ed_var (σ := [some (.int m), some v2, some (.ref a), none, none, none]) (i := 1) rfl (w1.mono (hide_ex e2))) (ed_int (i := 2)) (f1.gex e2).ok _ (Ex.refl _) _ fun z H3 e3 hz => ⟨_, _, _, rfl, ?_⟩
    cases dp_int hz
    dsimp only
    have f3 := f1.gex (e2.trans e3)
    have p3 : H3 p = some (.lst (x.map V.int)) := (e2.trans e3) p _ upd_same
    -- the list is seen while it is read
    have fb := f3.back hsub
    have hl : Dp K (hide M H3) (.ref p) (.list (x.map .int)) := .lst (sq_of (by rw [hide_out hpM]; exact p3)) (dpAll_ints x)
    have hat : ∀ {k : Nat}, k < n → atI (x.map PyData.int) (k : Int) = some (.int (WM.at_ x k)) := fun {k} hk => atI_nat' (by rw [List.getElem?_map, WM.at_some (by rw [hx.len]; exact hk)]; rfl)
    have hxs := hx.at hm u.src
    have hev : ED K M _ [some (.int m), some v2, some (.ref a), some (.ref p), some (.int u.src), some (.int u.tgt)] H3 (.int ((WM.at_ x u.tgt + u.fac * WM.at_ x u.src) % m)) := ed_mod hm (ed_add (ed_ixL (hat ht) (ed_var (i := 3) rfl hl) (ed_varI (k := 5) rfl)) (ed_mul (cmulR (by omega)) (ed_ixT (ds := dWinL u) (d := .int u.fac) rfl (ed_var (i := 1) rfl (h2.mono fb.vis)) (ed_int (i := 3))) (ed_ixL (hat hs) (ed_var (i := 3) rfl hl) (ed_varI (k := 4) rfl)))) (ed_varI (k := 0) rfl)
    refine s_setL fb.ok p3 rfl rfl (by simp [hx.len]; exact ht) hev.eg fun vn H4 e4 hvn => ?_
    cases dp_int hvn
    dsimp only
    have f4 := ((f3.gex e4).upd (a := p) (o := .lst ((x.map V.int).set u.tgt (.int ((WM.at_ x u.tgt + u.fac * WM.at_ x u.src) % m)))) (by simp) (.inr hp)).back hsub
    refine sd_ret (K := K) (d := dV (WM.moved m u x)) f4.ok (ed_tupleOf (ed_var (i := 3) rfl (.lst (sq_of (by rw [hide_out hpM]; exact upd_same)) ?_))) fun v H5 e5 h => hq v H5 (f4.out.trans e5) h
    rw [← List.map_set]
    exact dpAll_ints (WM.moved m u x))
abbrev N_law_look : List Str := ["_law_modulus", "_law_window", "_law_state", "_law_name", "_law_source", "_law_target", "_law_factor", "_law_pane", "_law_moves", "_law_after_it"]
theorem sc_law_look : FnScope N_law_look ["_law_modulus", "_law_window", "_law_state"] d_law_look.scope := ⟨rfl, rfl, rfl, by decide +kernel, rfl, by decide +kernel, by decide +kernel⟩
theorem bi_law_look (kV doc pm : Value) (an : Option Addr) (cdv ct : Value) (us : List Value) (hl : us.length = 3) : bindArgs (PySem.W.fnOf d_law_look.name d_law_look.qual d_law_look.params d_law_look.body d_law_look.scope .none kV doc pm an cdv ct) ⟨us, []⟩ = pure ((["_law_modulus", "_law_window", "_law_state"] : List Str).zip us) := by
  match us, hl with
  | [_, _, _], _ => rfl

def R_law_look (K : PySem.W.Frag) (Ts : List Ty) (T : Ty) : Prop := ∃ (m : Int) (n : Nat) (u : W) (mk mk' : Nat) (x : List Int), Ts = [tI K m, dat K (dWin u), dat K (.tuple [.int mk, dV x])] ∧ 0 < m ∧ m < 2 ^ 29 ∧ n ≤ 1000 ∧ WM.Vec m n x ∧ u.src < n ∧ u.tgt < n ∧ 0 < u.pane ∧ u.moves[mk]? = some (some mk') ∧
  T = dat K (.tuple [.int (WM.at_ x u.src % u.pane), .tuple [.int mk', dV (WM.moved m u x)]])
theorem cal_law_look (G : Glb w K mg base) : C8.Cal PP w K mg base 1 "_law_look" (SpT (R_law_look K)) [] :=
  cal_mk G 55 (d := d_law_look) rfl rfl G.g_law_look rfl sc_law_look (spT_len fun Ts T ⟨_, _, _, _, _, _, h, _⟩ => by rw [h]; rfl) bi_law_look (fun f cdv A outer s H vs Q E hr hsp => by
    obtain ⟨M, Ts, T, hM, hv, ⟨m, n, u, mk, mk', x, rfl, hm, hm2, hn, hx, hs, ht, hpn, hmk, rfl⟩, hq⟩ := hsp
    obtain ⟨v1, v2, v3, rfl, h1, h2, h3⟩ := allT3 hv
    cases dp_int h1
    have h2 : Dp K (hide M H) v2 (dWin u) := h2
    have h3 : Dp K (hide M H) v3 (.tuple [.int mk, dV x]) := h3
    refine ⟨_, (pss_cons (ps_asg (pv 1) (pg_tup rfl (pgs_cons (pg_name (i := 3) sc_law_look.nd rfl (by first | exact Or.inl rfl | exact Or.inr rfl)) (pgs_cons (pg_name (i := 4) sc_law_look.nd rfl (by first | exact Or.inl rfl | exact Or.inr rfl)) (pgs_cons (pg_name (i := 5) sc_law_look.nd rfl (by first | exact Or.inl rfl | exact Or.inr rfl)) (pgs_cons (pg_name (i := 6) sc_law_look.nd rfl (by first | exact Or.inl rfl | exact Or.inr rfl)) (pgs_cons (pg_name (i := 7) sc_law_look.nd rfl (by first | exact Or.inl rfl | exact Or.inr rfl)) (pgs_cons (pg_name (i := 8) sc_law_look.nd rfl (by first | exact Or.inl rfl | exact Or.inr rfl)) pgs_nil))))))))
      (pss_cons (ps_set (i := 9) sc_law_look.nd rfl (by first | exact Or.inl rfl | exact Or.inr rfl) (pe_callTy (T := "list") call_list_of (by rfl) G.f_list (by decide +kernel) (pa_cons (pe_ix ix_tup (pv 2) pe_int (fun _ _ => rfl)) pa_nil)))
      (pss_cons (ps_asg (pe_op op_mod (pe_op op_add (pe_ix ix_list (pv 9) (pv 5) (fun _ _ => rfl)) (pe_op op_mul (pv 6) (pe_ix ix_list (pv 9) (pv 4) (fun _ _ => rfl)))) (pv 0)) (pg_sub (pv 9) (pv 5) set_list))
      (pss_one (ps_ret (pe_tup (pa_cons (pe_op op_mod (pe_ix ix_tup (pe_ix ix_tup (pv 2) pe_int (fun _ _ => rfl)) (pv 4) (fun _ _ => rfl)) (pv 7)) (pa_cons (pe_tup (pa_cons (pe_ix ix_tup (pv 8) (pe_ix ix_tup (pv 2) pe_int (fun _ _ => rfl)) (fun _ _ => rfl)) (pa_cons (pe_callTy (T := "tuple") call_tuple_of (by rfl) G.f_tuple (by decide +kernel) (pa_cons (pv 9) pa_nil)) pa_nil))) pa_nil)))))))), ?_⟩
    refine sg_bind hM (eg_var (T := dat K (dWin u)) rfl h2) fun vu H1 e1 hvu => ?_
    refine g_tup6 (K := K) hvu fun x1 x2 x3 x4 x5 x6 _ hx2 hx3 hx4 hx5 hx6 => ?_
    cases dp_int hx2
    cases dp_int hx3
    cases dp_int hx4
    cases dp_int hx5
    dsimp only
    have st1 : ∀ (τ : L2.St) H1, Ex H H1 → τ[2]? = some (some v3) → ED K M (tOp (rIxT K) (tVar 2) (tC (.int 1))) τ H1 (dV x) := fun τ H1 e h => ed_ixT (ds := [.int mk, dV x]) (d := dV x) rfl (ed_var h (h3.mono (hide_ex e))) ed_int
    refine s_listV (K := K) (hM.ex e1) (st1 _ H1 e1 rfl) fun p H2 e2 hp => ?_
    dsimp only
    have e02 := e1.trans e2
    have hp0 : H p = none := fresh_back e02 hp
    have hpM : p ∉ M := hM.new hp0
    have hsub : ∀ a ∈ M, a ∈ p :: M := fun a ha => by simp [ha]
    have f3 : Fr [] M H (p :: M) (upd H2 p (.lst (x.map V.int))) := ((Fr.refl hM).gex e02).new hp
    have p3 : (upd H2 p (.lst (x.map V.int))) p = some (.lst (x.map V.int)) := upd_same
    have hx62 : Dp K (hide (p :: M) (upd H2 p (.lst (x.map V.int)))) x6 (.tuple (u.moves.map dMv)) := by
      rw [hide_upd (by simp)]
      exact (hx6.mono (hide_ex e2)).mono (hide_cons hp)
    generalize upd H2 p (.lst (x.map V.int)) = H3 at f3 p3 hx62
    have fb := f3.back hsub
    have hl : Dp K (hide M H3) (.ref p) (.list (x.map .int)) := .lst (sq_of (by rw [hide_out hpM]; exact p3)) (dpAll_ints x)
    have hat : ∀ {k : Nat}, k < n → atI (x.map PyData.int) (k : Int) = some (.int (WM.at_ x k)) := fun {k} hk => atI_nat' (by rw [List.getElem?_map, WM.at_some (by rw [hx.len]; exact hk)]; rfl)
    have hxs := hx.at hm u.src
    have hev : ED K M _ [some (.int m), some v2, some v3, some x1, some (.int u.src), some (.int u.tgt), some (.int u.fac), some (.int u.pane), some x6, some (.ref p)] H3 (.int ((WM.at_ x u.tgt + u.fac * WM.at_ x u.src) % m)) := ed_mod hm (ed_add (ed_ixL (hat ht) (ed_var (i := 9) rfl hl) (ed_varI (k := 5) rfl)) (ed_mul (cmulR (by omega)) (ed_varI (k := 6) rfl) (ed_ixL (hat hs) (ed_var (i := 9) rfl hl) (ed_varI (k := 4) rfl)))) (ed_varI (k := 0) rfl)
    refine s_setL fb.ok p3 rfl rfl (by simp [hx.len]; exact ht) hev.eg fun vn H4 e4 hvn => ?_
    cases dp_int hvn
    dsimp only
    have f4 := ((f3.gex e4).upd (a := p) (o := .lst ((x.map V.int).set u.tgt (.int ((WM.at_ x u.tgt + u.fac * WM.at_ x u.src) % m)))) (by simp) (.inr hp0)).back hsub
    have hlen := f4.out
    have hl5 : Dp K (hide M (upd H4 p (.lst ((x.map V.int).set u.tgt (.int ((WM.at_ x u.tgt + u.fac * WM.at_ x u.src) % m)))))) (.ref p) (.list ((WM.moved m u x).map .int)) := .lst (sq_of (by rw [hide_out hpM]; exact upd_same)) (by
      rw [← List.map_set]
      exact dpAll_ints (WM.moved m u x))
    have hx65 : Dp K (hide M (upd H4 p (.lst ((x.map V.int).set u.tgt (.int ((WM.at_ x u.tgt + u.fac * WM.at_ x u.src) % m)))))) x6 (.tuple (u.moves.map dMv)) := by
      have : Dp K (hide (p :: M) (upd H4 p (.lst ((x.map V.int).set u.tgt (.int ((WM.at_ x u.tgt + u.fac * WM.at_ x u.src) % m)))))) x6 (.tuple (u.moves.map dMv)) := by
        rw [hide_upd (by simp)]
        exact hx62.mono (hide_ex e4)
      exact this.mono (hide_less hsub)
    generalize upd H4 p (.lst ((x.map V.int).set u.tgt (.int ((WM.at_ x u.tgt + u.fac * WM.at_ x u.src) % m)))) = H5 at f4 hlen hl5 hx65
    refine sd_ret (K := K) f4.ok (ed_tup (by simp) (ea_cons (ed_mod hpn (ed_ixT (ds := x.map .int) (hat hs) (st1 _ H5 hlen rfl) (ed_varI rfl)) (ed_varI rfl)) (ea_one (ed_tup (by simp) (ea_cons (ed_ixT (ds := u.moves.map dMv) (d := .int (mk' : Int)) (atI_nat' (by rw [List.getElem?_map, hmk]; rfl)) (ed_var rfl hx65) (ed_ixT (ds := [.int mk, dV x]) (d := .int mk) rfl (ed_var rfl (h3.mono f4.vis)) ed_int)) (ea_one (ed_tupleOf (ed_var rfl hl5)))))))) fun v H6 e6 h => hq v H6 (hlen.trans e6) h)
/-! pairs of vectors -/
abbrev dPair (p : List Int × List Int) : PyData := .tuple [dV p.1, dV p.2]
abbrev N_law_first_left : List Str := ["_law_modulus", "_law_members_here", "_law_walk", "_law_pairs", "_law_one", "_law_window", "_law_first", "_law_last"]
theorem sc_law_first_left : FnScope N_law_first_left ["_law_modulus", "_law_members_here", "_law_walk"] d_law_first_left.scope := ⟨rfl, rfl, rfl, by decide +kernel, rfl, by decide +kernel, by decide +kernel⟩
theorem bi_law_first_left (kV doc pm : Value) (an : Option Addr) (cdv ct : Value) (us : List Value) (hl : us.length = 3) : bindArgs (PySem.W.fnOf d_law_first_left.name d_law_first_left.qual d_law_first_left.params d_law_first_left.body d_law_first_left.scope .none kV doc pm an cdv ct) ⟨us, []⟩ = pure ((["_law_modulus", "_law_members_here", "_law_walk"] : List Str).zip us) := by
  match us, hl with
  | [_, _, _], _ => rfl

def R_law_first_left (K : PySem.W.Frag) (Ts : List Ty) (T : Ty) : Prop := ∃ (m : Int) (n : Nat) (xs : List (List Int)) (wk : List W), Ts = [tI K m, dat K (dL xs), dat K (dWins wk)] ∧ 0 < m ∧ m < 2 ^ 29 ∧ n ≤ 1000 ∧ xs.length ≤ 80000 ∧ (∀ x ∈ xs, WM.Vec m n x) ∧ (∀ u ∈ wk, u.src < n ∧ u.tgt < n ∧ 0 < u.pane) ∧
  T = dat K (dL ((WM.pairsOf m wk xs).map Prod.fst))
theorem pairs_vec {m : Int} {n : Nat} (hm : 0 < m) : ∀ {wk : List W} {ps : List (List Int × List Int)}, (∀ p ∈ ps, WM.Vec m n p.1 ∧ WM.Vec m n p.2) → (∀ p ∈ wk.foldl (fun ps w => WM.pairStep m w ps) ps, WM.Vec m n p.1 ∧ WM.Vec m n p.2) ∧ (wk.foldl (fun ps w => WM.pairStep m w ps) ps).length ≤ ps.length
  | [], ps, h => ⟨h, Nat.le_refl _⟩
  | w :: wk, ps, h => by
    have h1 : ∀ p ∈ WM.pairStep m w ps, WM.Vec m n p.1 ∧ WM.Vec m n p.2 := fun p hp => by
      obtain ⟨q, hq, rfl⟩ := List.mem_map.mp hp
      have := h q (List.mem_filter.mp hq).1
      exact ⟨this.1, WM.moved_vec hm this.2⟩
    have h2 : (WM.pairStep m w ps).length ≤ ps.length := by
      unfold WM.pairStep
      rw [List.length_map]
      exact List.length_filter_le _ _
    obtain ⟨a, b⟩ := pairs_vec hm (wk := wk) h1
    exact ⟨a, by simp only [List.foldl_cons]; omega⟩
theorem pairs_snoc (m : Int) (wk : List W) (u : W) (xs : List (List Int)) : WM.pairsOf m (wk ++ [u]) xs = WM.pairStep m u (WM.pairsOf m wk xs) := by
  unfold WM.pairsOf
  rw [List.foldl_append]
  rfl
theorem pairsOf_ok {m : Int} {n : Nat} (hm : 0 < m) {xs : List (List Int)} (h : ∀ x ∈ xs, WM.Vec m n x) (wk : List W) : (∀ p ∈ WM.pairsOf m wk xs, WM.Vec m n p.1 ∧ WM.Vec m n p.2) ∧ (WM.pairsOf m wk xs).length ≤ xs.length := by
  have := pairs_vec hm (n := n) (wk := wk) (ps := xs.map fun x => (x, x)) (fun p hp => by
    obtain ⟨x, hx, rfl⟩ := List.mem_map.mp hp
    exact ⟨h x hx, h x hx⟩)
  rw [List.length_map] at this
  exact this
theorem cal_law_first_left (G : Glb w K mg base) : C8.Cal PP w K mg base 2 "_law_first_left" (SpT (R_law_first_left K)) [] :=
  cal_mk G 71 (d := d_law_first_left) rfl rfl G.g_law_first_left rfl sc_law_first_left (spT_len fun Ts T ⟨_, _, _, _, h, _⟩ => by rw [h]; rfl) bi_law_first_left (fun f cdv A outer s H vs Q E hr hsp => by
    obtain ⟨M, Ts, T, hM, hv, ⟨m, n, xs, wk, rfl, hm, hm2, hn, hl, hxs, hwk, rfl⟩, hq⟩ := hsp
    obtain ⟨v1, v2, v3, rfl, h1, h2, h3⟩ := allT3 hv
    cases dp_int h1
    refine ⟨_, (pss_cons (ps_setLc (i := 3) (own := [("_law_one", 4)]) (g := (gName 4)) (tt := tYes) rfl sc_law_first_left.nd rfl rfl (sw_true rfl rfl rfl (by decide +kernel)) (pi_list (pv 1)) (blkOk_by (N := N_law_first_left) (sc := d_law_first_left.scope) (by decide +kernel)) (fun _ _ _ _ _ => (pg_name (i := 4) sc_law_first_left.nd rfl (by first | exact Or.inl rfl | exact Or.inr rfl))) (fun _ _ _ _ _ => pts_nil) (fun _ _ _ _ _ => (pe_tup (pa_cons (pv 4) (pa_cons (pv 4) pa_nil)))))
      (pss_cons (ps_for PassesOwn.never rfl (pi_list (pv 2)) (pg_name (i := 5) sc_law_first_left.nd rfl (by first | exact Or.inl rfl | exact Or.inr rfl)) (pss_cons (ps_setLc (i := 3) (own := [("_law_one", 4)]) (g := (gName 4)) (tt := _) rfl sc_law_first_left.nd rfl rfl (sw_true rfl rfl rfl (by decide +kernel)) (pi_list (pv 3)) (blkOk_by (N := N_law_first_left) (sc := d_law_first_left.scope) (by decide +kernel)) (fun _ _ _ _ _ => (pg_name (i := 4) sc_law_first_left.nd rfl (by first | exact Or.inl rfl | exact Or.inr rfl))) (fun _ _ _ _ _ => (pts_one (pt_cmpR op_eq (pe_op op_mod (pe_ix (ix_tupK (K := K) rfl) (pe_ix (ix_tupK (K := K) rfl) (pv 4) pe_int (fun _ _ => rfl)) (pe_ix (ix_tupK (K := K) rfl) (pv 5) pe_int (fun _ _ => rfl)) (fun _ _ => rfl)) (pe_ix (ix_tupK (K := K) rfl) (pv 5) pe_int (fun _ _ => rfl))) pe_int (nomark _)))) (fun _ _ _ _ _ => (pv 4)))
      (pss_one (ps_setLc (i := 3) (own := [("_law_first", 6), ("_law_last", 7)]) (g := (gTup _ 2 (gCons (gName 6) (gCons (gName 7) gNil)))) (tt := tYes) rfl sc_law_first_left.nd rfl rfl (sw_true rfl rfl rfl (by decide +kernel)) (pi_list (pv 3)) (blkOk_by (N := N_law_first_left) (sc := d_law_first_left.scope) (by decide +kernel)) (fun _ _ _ _ _ => (pg_tup rfl (pgs_cons (pg_name (i := 6) sc_law_first_left.nd rfl (by first | exact Or.inl rfl | exact Or.inr rfl)) (pgs_cons (pg_name (i := 7) sc_law_first_left.nd rfl (by first | exact Or.inl rfl | exact Or.inr rfl)) pgs_nil)))) (fun _ _ _ _ _ => pts_nil) (fun _ _ _ _ _ => (pe_tup (pa_cons (pv 6) (pa_cons (C8.pe_c (cal_law_moved G) hr (by decide) (by rfl) (pa_cons (pv 0) (pa_cons (pv 5) (pa_cons (pv 7) pa_nil)))) pa_nil))))))))
      (pss_one (ps_ret (pe_lc (own := [("_law_first", 6), ("_law_last", 7)]) (g := (gTup _ 2 (gCons (gName 6) (gCons (gName 7) gNil)))) (tt := tYes) rfl sc_law_first_left.nd (pi_list (pv 3)) (blkOk_by (N := N_law_first_left) (sc := d_law_first_left.scope) (by decide +kernel)) (fun _ _ _ _ _ => (pg_tup rfl (pgs_cons (pg_name (i := 6) sc_law_first_left.nd rfl (by first | exact Or.inl rfl | exact Or.inr rfl)) (pgs_cons (pg_name (i := 7) sc_law_first_left.nd rfl (by first | exact Or.inl rfl | exact Or.inr rfl)) pgs_nil)))) (fun _ _ _ _ _ => pts_nil) (fun _ _ _ _ _ => (pv 6))))))), ?_⟩
    refine sd_set (K := K) (d := .list ((WM.pairsOf m ([] : List W) xs).map dPair)) hM ((ed_lcL1 (src := xs) (g := dV) (ed_var rfl h2) (by omega) (fun x => dPair (x, x)) (fun _ => rfl) fun M' H' y x ex hM' hx hy => ed_tup (by simp) (ea_cons (ed_var rfl hy) (ea_one (ed_var rfl hy)))).to (by show _ = PyData.list ((xs.map fun x => (x, x)).map dPair); rw [List.map_map]; rfl)) fun v4 H1 e1 h4 => ?_
    dsimp only
    refine s_forP (hM.ex e1) (ei_ld (K := K) (src := wk) (f := dWin) (ed_var rfl (Dp.mono h3 (hide_ex e1)))) (fun i σ' H' => ∃ u y1 y2 y3 y4, σ' = [some (.int m), some v2, some v3, some u, y1, y2, y3, y4] ∧ Dp K (hide M H') u (.list ((WM.pairsOf m (wk.take i) xs).map dPair))) (fun H2 e => ⟨v4, none, none, none, none, rfl, h4.mono (hide_ex e)⟩) ?_ ?_
    · rintro H2 i u vu σ' H' H3 e2 e3 hi ⟨vp, y1, y2, y3, y4, rfl, hp⟩ e4 hx
      have e := ((e1.trans e2).trans e3).trans e4
      have hmem := List.mem_of_getElem? hi
      obtain ⟨hs, ht, hpn⟩ := hwk u hmem
      obtain ⟨hpv, hpl⟩ := pairsOf_ok hm hxs (wk.take i)
      have hp := hp.mono (hide_ex e4)
      have hx : Dp K (hide M H3) vu (.tuple (dWinL u)) := hx
      refine sd_set (K := K) (d := .list (((WM.pairsOf m (wk.take i) xs).filter fun p : List Int × List Int => decide (WM.at_ p.2 u.src % u.pane = 0)).map dPair)) (hM.ex e) (ed_lcL (src := WM.pairsOf m (wk.take i) xs) (g := dPair) (ed_var rfl hp) (by omega) (fun p : List Int × List Int => decide (WM.at_ p.2 u.src % u.pane = 0)) dPair (fun _ => rfl) (fun M' H' y p ex hM' hpm hy => ?_) fun M' H' y p ex hM' hpm _ hy => ed_var rfl hy) fun v5 H4 e5 h5 => ?_
      · have hx' := hx.mono ex
        exact et_test (ed_eqI (K := K) (ed_mod hpn (ed_at (by rw [(hpv p hpm).2.len]; exact hs) (ed_ixT (ds := [dV p.1, dV p.2]) (d := dV p.2) rfl (ed_var rfl hy) ed_int) (ed_ixT (ds := dWinL u) (d := .int u.src) rfl (ed_var rfl hx') ed_int)) (ed_ixT (ds := dWinL u) (d := .int u.pane) rfl (ed_var rfl hx') ed_int)) ed_int)
      · dsimp only
        have e04 := e.trans e5
        have hx4 := hx.mono (hide_ex (M := M) e5)
        refine sd_set (K := K) (d := .list ((WM.pairsOf m (wk.take (i + 1)) xs).map dPair)) (hM.ex e04) ((ed_lcA (K := K) (ei_ld (K := K) (src := (WM.pairsOf m (wk.take i) xs).filter fun p : List Int × List Int => decide (WM.at_ p.2 u.src % u.pane = 0)) (f := dPair) (ed_var rfl h5)) (by have := List.length_filter_le (fun p : List Int × List Int => decide (WM.at_ p.2 u.src % u.pane = 0)) (WM.pairsOf m (wk.take i) xs); omega) (fun p => dPair (p.1, WM.moved m u p.2)) fun M' H' y p j ex hM' hj hy => ?_).to ?_) fun v6 H5 e6 h6 => ⟨((e3.trans e4).trans (e5.trans e6)), v6, _, _, _, _, rfl, h6⟩
        · have hpm := (List.mem_filter.mp (List.mem_of_getElem? hj)).1
          obtain ⟨q, z1, z2, rfl, hqs, hz1, hz2⟩ := dp_pair hy
          exact turn_pair hqs rfl et_yes fun _ => (ed_tup (K := K) (by simp) (ea_cons (ed_var rfl hz1) (ea_one (ed_call (R := R_law_moved K) (ega_d (ed_varI rfl) (ega_d (d := dWin u) (ed_var rfl (hx4.mono ex)) (ega_d (ed_var rfl hz2) ega_nil))) ⟨m, n, u, p.2, rfl, hm, hm2, hn, (hpv p hpm).2, hs, ht, rfl⟩)))).eg
        · have : wk.take (i + 1) = wk.take i ++ [u] := by rw [List.take_add_one, hi]; rfl
          rw [this, pairs_snoc, WM.pairStep, List.map_map]
          rfl
    · rintro σ' H' e ⟨vp, y1, y2, y3, y4, rfl, hp⟩
      rw [List.take_length] at hp
      dsimp only
      have hpl := (pairsOf_ok hm hxs wk).2
      refine sd_ret (K := K) (d := dL ((WM.pairsOf m wk xs).map Prod.fst)) (hM.ex (e1.trans e)) ((ed_lcA (K := K) (ei_ld (K := K) (src := WM.pairsOf m wk xs) (f := dPair) (ed_var rfl hp)) (by omega) (fun p => dV p.1) fun M' H' y p j ex hM' hj hy => ?_).to (by show _ = PyData.list (((WM.pairsOf m wk xs).map Prod.fst).map dV); rw [List.map_map]; rfl)) fun v H2 e2 h => hq v H2 ((e1.trans e).trans e2) h
      obtain ⟨q, z1, z2, rfl, hqs, hz1, hz2⟩ := dp_pair hy
      exact turn_pair hqs rfl et_yes fun _ => ed_var (K := K) rfl hz1)
end
end WL
end
section
set_option Elab.async false
set_option linter.all false
set_option maxRecDepth 100000
set_option maxHeartbeats 4000000
/-! D19: _law_played. -/
namespace WL
open PySem PySem.Spec PyProof.Rows L2 Evl HeadW
/-- the windows by their names -/
def tyDN (K : PySem.W.Frag) (ws : List W) : Ty := ⟨fun v H => ∃ d kvs, v = .ref d ∧ H d = some (.dK kvs) ∧ ∀ nm u, WM.Named ws nm u → ∃ x, valV kvs (.inr nm) = some x ∧ Dp K H x (dWin u), fun e ⟨d, kvs, h1, h2, h3⟩ => ⟨d, kvs, h1, e d _ h2, fun nm u hn => by
  obtain ⟨x, a, b⟩ := h3 nm u hn
  exact ⟨x, a, b.mono e⟩⟩⟩
theorem merge_good {K : PySem.W.Frag} {H : Hp} {nm : Str} {u : W} : ∀ {kvs acc : List (Key × V)}, (∀ kv ∈ kvs, kv.1 = .inr nm → Dp K H kv.2 (dWin u)) → ((∃ x, valV acc (.inr nm) = some x ∧ Dp K H x (dWin u)) ∨ ∃ kv ∈ kvs, kv.1 = .inr nm) → ∃ x, valV (mergeK acc kvs) (.inr nm) = some x ∧ Dp K H x (dWin u)
  | [], acc, _, h => by
    rcases h with h | ⟨kv, hk, _⟩
    · exact h
    · cases hk
  | kv :: kvs, acc, hg, h => by
    show ∃ x, valV (mergeK (putK acc kv.1 kv.2) kvs) (.inr nm) = some x ∧ Dp K H x (dWin u)
    refine merge_good (fun k hk => hg k (by simp [hk])) ?_
    by_cases e : kv.1 = .inr nm
    · exact .inl ⟨kv.2, by rw [valV_put, if_pos e.symm], hg kv (by simp) e⟩
    · rcases h with ⟨x, h1, h2⟩ | ⟨k, hk, hk2⟩
      · exact .inl ⟨x, by rw [valV_put, if_neg (fun z => e z.symm)]; exact h1, h2⟩
      · rcases List.mem_cons.mp hk with z | z
        · exact absurd (z ▸ hk2) e
        · exact .inr ⟨k, z, hk2⟩
theorem pairs_split {K : PySem.W.Frag} {H : Hp} : ∀ {xs : List V} {ws : List W}, DpAll K H xs (ws.map fun u => .tuple [.str u.name, dWin u]) → ∃ (ps : List Addr) (kvs : List (Key × V)), xs = ps.map V.ref ∧ Paired (fun p kv => SqT K H p [kV kv.1, kv.2]) ps kvs ∧ (∀ kv ∈ kvs, ∃ u ∈ ws, kv.1 = .inr u.name ∧ Dp K H kv.2 (dWin u)) ∧ ∀ u ∈ ws, ∃ kv ∈ kvs, kv.1 = .inr u.name
  | _, [], h => by
    cases h
    exact ⟨[], [], rfl, .nil, by simp, by simp⟩
  | _, u :: ws, h => by
    cases h with
    | cons a b =>
      obtain ⟨ps, kvs, rfl, h1, h2, h3⟩ := pairs_split b
      obtain ⟨p, y, z, rfl, hs, hy, hz⟩ := dp_pair a
      cases dp_str hy
      refine ⟨p :: ps, (.inr u.name, z) :: kvs, rfl, .cons hs h1, fun kv hk => ?_, fun w hw => ?_⟩
      · rcases List.mem_cons.mp hk with e | e
        · rw [e]; exact ⟨u, by simp, rfl, hz⟩
        · obtain ⟨w, a1, a2⟩ := h2 kv e
          exact ⟨w, by simp [a1], a2⟩
      · rcases List.mem_cons.mp hw with e | e
        · rw [e]; exact ⟨(.inr u.name, z), by simp, rfl⟩
        · obtain ⟨kv, a1, a2⟩ := h3 w e
          exact ⟨kv, by simp [a1], a2⟩
theorem plays_len {m : Int} {ws : List W} : ∀ {p : Pl} {mk : Nat} {x r : List Int} {wk : List W}, WM.Plays ws m p mk x r wk → r.length = wk.length
  | _, _, _, _, _, .none => rfl
  | _, _, _, _, _, .look _ _ _ h => congrArg (· + 1) (plays_len h)
theorem paired_up {K : PySem.W.Frag} {H H' : Hp} (e : Ex H H') : ∀ {ps : List Addr} {kvs : List (Key × V)}, Paired (fun p kv => SqT K H p [kV kv.1, kv.2]) ps kvs → Paired (fun p kv => SqT K H' p [kV kv.1, kv.2]) ps kvs
  | _, _, .nil => .nil
  | _, _, .cons a b => .cons (ex_t e a) (paired_up e b)
section
variable {K : PySem.W.Frag} {M : List Addr} {σ : L2.St} {H H' : Hp} {te ta tb : TE} {T : Ty} {D : Ends} {g : TG} {i j : Nat}
def rDictP (K : PySem.W.Frag) : List V → Hp → VK → Prop := fun xs H Q => ∃ (a : Addr) (ps : List Addr) (kvs : List (Key × V)), xs = [.ref a] ∧ SqL K H a (ps.map V.ref) ∧ Paired (fun p kv => SqT K H p [kV kv.1, kv.2]) ps kvs ∧
    ∀ p, H p = none → Q (.ref p) (upd H p (.dK (mergeK [] kvs)))
theorem eg_dictP {ws : List W} (h : ED K M te σ H (.list (ws.map fun u => .tuple [.str u.name, dWin u]))) : EG M (tCB (rDictP K) (tCons te tNil)) σ H (tyDN K ws) := fun hM H1 e Q q =>
  h hM H1 e _ fun v H2 e2 hv => by
    obtain ⟨a, xs, rfl, hs, hx⟩ := dp_lst hv
    obtain ⟨ps, kvs, rfl, h1, h2, h3⟩ := pairs_split hx
    refine ⟨a, ps, kvs, rfl, ex_l (hide_sub _ _) hs, paired_up (hide_sub _ _) h1, fun p hp => q _ _ (e2.trans (Ex.new hp)) ⟨p, _, rfl, by rw [hide_out ((hM.ex (e.trans e2)).new hp)]; exact upd_same, fun nm u hn => ?_⟩⟩
    have := merge_good (K := K) (H := hide M H2) (nm := nm) (u := u) (kvs := kvs) (acc := []) (fun kv hk he => by
      obtain ⟨w, a1, a2, a3⟩ := h2 kv hk
      rw [he] at a2
      injection a2 with a2
      have := hn.2.2 w a1 a2.symm
      rw [this] at a3
      exact a3) (.inr (by
      obtain ⟨kv, a1, a2⟩ := h3 u hn.1
      exact ⟨kv, a1, by rw [a2, hn.2.1]⟩))
    obtain ⟨x, b1, b2⟩ := this
    exact ⟨x, b1, b2.mono (new_ex hp)⟩
theorem ed_dgetN {ws : List W} {nm : Str} {u : W} {vd : V} (hj : σ[j]? = some (some vd)) (hd : (tyDN K ws).p vd (hide M H)) (hn : WM.Named ws nm u) (h : ED K M te σ H (.str nm)) : ED K M (tDGet (tVar j) te) σ H (dWin u) := fun hM H1 e Q q =>
  ⟨vd, hj, h hM H1 e _ fun y H2 e2 hy => by
    obtain ⟨d, kvs, rfl, hd2, hg⟩ := (tyDN K ws).up (hide_ex (M := M) (e.trans e2)) hd
    obtain ⟨x, h1, h2⟩ := hg nm u hn
    have := DGet.k (k := .inr nm) (hide_sub _ _ _ _ hd2)
    rw [h1] at this
    exact ⟨d, x, rfl, by rw [dp_str hy]; exact this, q x H2 e2 h2⟩⟩
theorem s_par3LL {i j l : Nat} {d : PyData} (hM : MOk M H) (h : ED K M te σ H d) (k : ∀ v H1 p q, Ex H H1 → Dp K (hide M H1) v d → H1 p = none → (upd H1 p (.lst [])) q = none → D.nx (((σ.set i (some v)).set j (some (.ref p))).set l (some (.ref q))) (upd (upd H1 p (.lst [])) q (.lst []))) :
    tPar3 i j l (tCons te (tCons (tLst tNil) (tCons (tLst tNil) tNil))) D σ H :=
  h hM H (Ex.refl H) _ fun v H1 e hv => ⟨Nat.zero_le _, fun p hp => ⟨Nat.zero_le _, fun q hq => ⟨_, _, _, rfl, k v H1 p q e hv hp hq⟩⟩⟩
end
section
variable {w : World} {K : PySem.W.Frag} {mg : Str → Option Value} {base : Heap}
abbrev N_law_played : List Str := ["_law_modulus", "_law_windows_here", "_law_start", "_law_positions", "_law_plan_here", "_law_state", "_law_readings", "_law_walk", "_law_by_name", "_law_window", "_law_reading"]
theorem sc_law_played : FnScope N_law_played ["_law_modulus", "_law_windows_here", "_law_start", "_law_positions", "_law_plan_here"] d_law_played.scope := ⟨rfl, rfl, rfl, by decide +kernel, rfl, by decide +kernel, by decide +kernel⟩
theorem bi_law_played (kV doc pm : Value) (an : Option Addr) (cdv ct : Value) (us : List Value) (hl : us.length = 5) : bindArgs (PySem.W.fnOf d_law_played.name d_law_played.qual d_law_played.params d_law_played.body d_law_played.scope .none kV doc pm an cdv ct) ⟨us, []⟩ = pure ((["_law_modulus", "_law_windows_here", "_law_start", "_law_positions", "_law_plan_here"] : List Str).zip us) := by
  match us, hl with
  | [_, _, _, _, _], _ => rfl

def R_law_played (K : PySem.W.Frag) (Ts : List Ty) (T : Ty) : Prop := ∃ (m : Int) (n st : Nat) (ws : List W) (mk : Nat) (x : List Int) (p : Pl) (rds : List Int) (wk : List W), Ts = [tI K m, dat K (dWins ws), tI K mk, tV K x, dat K (dPlan p)] ∧ 0 < m ∧ m < 2 ^ 29 ∧ n ≤ 1000 ∧ ws.length ≤ 1000 ∧
  (∀ u ∈ ws, WM.WinOk m n st u) ∧ WM.Vec m n x ∧ WM.Plays ws m p mk x rds wk ∧ rds.length ≤ 1000 ∧ T = tyU K [tyVP rds, dat K (dWins wk)]
theorem cal_law_played (G : Glb w K mg base) : C8.Cal PP w K mg base 2 "_law_played" (SpT (R_law_played K)) [] :=
  cal_mk G 70 (d := d_law_played) rfl rfl G.g_law_played rfl sc_law_played (spT_len fun Ts T ⟨_, _, _, _, _, _, _, _, _, h, _⟩ => by rw [h]; rfl) bi_law_played (fun f cdv A outer s H vs Q E hr hsp => by
    obtain ⟨M, Ts, T, hM, hv, ⟨m, n, st, ws, mk0, x0, p0, rds0, wk0, rfl, hm, hm2, hn, hwl, hws, hx0, hpl0, hrl, rfl⟩, hq⟩ := hsp
    obtain ⟨v1, v2, v3, v4, v5, rfl, h1, h2, h3, h4, h5⟩ := allT5 hv
    cases dp_int h1
    cases dp_int h3
    refine ⟨_, (pss_cons (ps_par3 (i := 5) (j := 6) (l := 7) (by rfl) sc_law_played.nd rfl rfl rfl (by decide) (by decide) (by decide) rfl rfl rfl (pa_cons (pe_tup (pa_cons (pv 2) (pa_cons (pv 3) pa_nil))) (pa_cons (pe_lst pa_nil) (pa_cons (pe_lst pa_nil) pa_nil))) (by rfl))
      (pss_cons (ps_set (i := 8) sc_law_played.nd rfl (by first | exact Or.inl rfl | exact Or.inr rfl) (pe_callTy (T := "dict") (call_dictP rfl) (by rfl) G.f_dict (by decide +kernel) (pa_cons (pe_lc (own := [("_law_window", 9)]) (g := (gName 9)) (tt := tYes) rfl sc_law_played.nd (pi_list (pv 1)) (blkOk_by (N := N_law_played) (sc := d_law_played.scope) (by decide +kernel)) (fun _ _ _ _ _ => (pg_name (i := 9) sc_law_played.nd rfl (by first | exact Or.inl rfl | exact Or.inr rfl))) (fun _ _ _ _ _ => pts_nil) (fun _ _ _ _ _ => (pe_tup (pa_cons (pe_ix (ix_tupK (K := K) rfl) (pv 9) pe_int (fun _ _ => rfl)) (pa_cons (pv 9) pa_nil))))) pa_nil)))
      (pss_cons (ps_while PassesOwn.never (pt_cmpR op_notN1 (pv 4) pe_non (nomark _)) (pss_cons (ps_set (i := 9) sc_law_played.nd rfl (by first | exact Or.inl rfl | exact Or.inr rfl) (pe_dget (hu_of hr) (pv 8) (pe_ix ix_tup (pv 4) pe_int (fun _ _ => rfl)) (fun _ _ => rfl)))
      (pss_cons (ps_asg (C8.pe_c (cal_law_look G) hr (by decide) (by rfl) (pa_cons (pv 0) (pa_cons (pv 9) (pa_cons (pv 5) pa_nil)))) (pg_tup rfl (pgs_cons (pg_name (i := 10) sc_law_played.nd rfl (by first | exact Or.inl rfl | exact Or.inr rfl)) (pgs_cons (pg_name (i := 5) sc_law_played.nd rfl (by first | exact Or.inl rfl | exact Or.inr rfl)) pgs_nil))))
      (pss_cons (ps_expr (pe_bm PySem.F.plainAttrs_list PySem.F.slot_list_append PySem.F.type_list_append mt_append (pv 6) (pa_cons (pv 10) pa_nil)))
      (pss_cons (ps_expr (pe_bm PySem.F.plainAttrs_list PySem.F.slot_list_append PySem.F.type_list_append mt_append (pv 7) (pa_cons (pv 9) pa_nil)))
      (pss_one (ps_set (i := 4) sc_law_played.nd rfl (by first | exact Or.inl rfl | exact Or.inr rfl) (pe_ix ix_list (pe_ix ix_tup (pv 4) pe_int (fun _ _ => rfl)) (pv 10) (fun _ _ => rfl)))))))))
      (pss_one (ps_ret (pe_tup (pa_cons (pe_callTy (T := "tuple") call_tuple_of (by rfl) G.f_tuple (by decide +kernel) (pa_cons (pv 6) pa_nil)) (pa_cons (pv 7) pa_nil)))))))), ?_⟩
    -- the state, two new lists
    refine s_par3LL (K := K) (d := .tuple [.int mk0, dV x0]) hM (ed_tup (by simp) (ea_cons (ed_varI rfl) (ea_one (ed_var rfl h4)))) fun vst H1 p q e1 hst hp hq0 => ?_
    dsimp only
    have hpH : H p = none := fresh_back e1 hp
    have hqH : H q = none := fresh_back (e1.trans (Ex.new hp)) hq0
    have hpq : p ≠ q := fun z => by subst z; rw [upd_same] at hq0; cases hq0
    have f2 : Fr [] M H (q :: p :: M) (upd (upd H1 p (.lst [])) q (.lst [])) := (((Fr.refl hM).gex e1).new hp).new hq0
    have hsub : ∀ a ∈ M, a ∈ q :: p :: M := fun a ha => by simp [ha]
    have hst2 : Dp K (hide (q :: p :: M) (upd (upd H1 p (.lst [])) q (.lst []))) vst (.tuple [.int mk0, dV x0]) := by
      rw [hide_upd (by simp)]
      refine Dp.mono ?_ (hide_cons hq0)
      rw [hide_upd (by simp)]
      exact hst.mono (hide_cons hp)
    have p2 : (upd (upd H1 p (.lst [])) q (.lst [])) p = some (.lst []) := by rw [upd_ne hpq]; exact upd_same
    have q2 : (upd (upd H1 p (.lst [])) q (.lst [])) q = some (.lst []) := upd_same
    generalize upd (upd H1 p (.lst [])) q (.lst []) = H2 at f2 hst2 p2 q2
    -- the windows by name
    refine sg_set f2.ok (eg_dictP (K := K) (ws := ws) (ed_lcL1 (src := ws) (g := dWin) (ed_var (i := 1) (d := dWins ws) rfl (Dp.mono h2 f2.vis)) (by omega) (fun u => .tuple [.str u.name, dWin u]) (fun _ => rfl) fun M' H' y u ex hM' hu hy => ed_tup (by simp) (ea_cons (ed_ixT (ds := dWinL u) (d := .str u.name) rfl (ed_var rfl hy) ed_int) (ea_one (ed_var rfl hy))))) fun vd H3 e3 hvd => ?_
    dsimp only
    refine s_while (fun k σ' H' => ∃ (pl : Pl) (mk : Nat) (x rds : List Int) (wk : List W) (rdD : List Int) (wkD : List W) (vp vst : V) (xs ys : List V) (y9 y10 : Option V), σ' = [some (.int m), some v2, some (.int mk0), some v4, some vp, some vst, some (.ref p), some (.ref q), some vd, y9, y10] ∧ Fr [] M H (q :: p :: M) H' ∧ Ex (hide (q :: p :: M) H3) (hide (q :: p :: M) H') ∧ H' p = some (.lst xs) ∧ H' q = some (.lst ys) ∧
        DpAll K (hide (q :: p :: M) H') xs (rdD.map .int) ∧ DpAll K (hide (q :: p :: M) H') ys (wkD.map dWin) ∧ Dp K (hide (q :: p :: M) H') vp (dPlan pl) ∧ Dp K (hide (q :: p :: M) H') vst (.tuple [.int (mk : Int), dV x]) ∧ WM.Vec m n x ∧ WM.Plays ws m pl mk x rds wk ∧ rds0 = rdD ++ rds ∧ wk0 = wkD ++ wk ∧ rds.length = wk.length ∧ k = rds.length) rds0.length
      ⟨p0, mk0, x0, rds0, wk0, [], [], v5, vst, [], [], none, none, rfl, f2.gex e3, Ex.refl _, e3 p _ p2, e3 q _ q2, .nil, .nil, Dp.mono h5 (f2.gex e3).vis, hst2.mono (hide_ex e3), hx0, hpl0, rfl, rfl, ?_, rfl⟩ ?_
    · exact plays_len hpl0
    rintro k σ' H' ⟨pl, mk, x, rds, wk, rdD, wkD, vp, vst, xs, ys, y9, y10, rfl, fr, ex1, hpx, hqx, hxs, hys, hvp, hvst, hx, hpl, hr0, hw0, hlen, rfl⟩
    refine ⟨q :: p :: M, _, fr.ok, et_test (ed_notN (K := K) (ed_var rfl hvp)), fun hb H4 e4 => ?_, fun hb H4 e4 => ?_⟩
    · dsimp only
      have f4 := fr.gex e4
      cases hpl with
      | none => cases hb
      | @look nm subs _ _ u mk' sub rds2 wk2 hn1 hmv hsub2 hpl2 =>
      have hu := hws u hn1.1
      have hp0 := hm
      have hvp4 : Dp K (hide (q :: p :: M) H4) vp (.tuple [.str nm, .list (subs.map dPlan)]) := by
        rw [← dPlan_look]; exact hvp.mono (hide_ex e4)
      have hvd4 : (tyDN K ws).p vd (hide (q :: p :: M) H4) := (tyDN K ws).up (ex1.trans (hide_ex e4)) hvd
      refine sd_set (K := K) (d := dWin u) f4.ok (ed_dgetN rfl hvd4 hn1 (ed_ixT (ds := [.str nm, .list (subs.map dPlan)]) (d := .str nm) rfl (ed_var rfl hvp4) ed_int)) fun vw H5 e5 hvw => ?_
      dsimp only
      refine sg_bind (f4.gex e5).ok (eg_call (R := R_law_look K) (ega_d (ed_varI rfl) (ega_d (d := dWin u) (ed_var rfl hvw) (ega_d (ed_var rfl (hvst.mono (hide_ex (e4.trans e5)))) ega_nil))) ⟨m, n, u, mk, mk', x, rfl, hm, hm2, hn, hx, hu.src, hu.tgt, hu.pane.1, hmv, rfl⟩) fun vr H6 e6 hvr => ?_
      refine g_tup2 (K := K) hvr fun y z hy hz => ?_
      cases dp_int hy
      dsimp only
      have e46 := e5.trans e6
      have f6 := f4.gex e46
      have e06 := e4.trans e46
      refine s_append f6.ok (e06 p _ hpx) rfl (ed_varI (K := K) rfl).eg (by have a := dpAll_len hxs; have b := congrArg List.length hr0; rw [List.length_map] at a; rw [List.length_append] at b; omega) fun v1 H7 e7 hv1 => ?_
      dsimp only
      have f7 := (f6.gex e7).upd (a := p) (o := .lst (xs ++ [v1])) (by simp) (.inr hpH)
      have e07 := e06.trans e7
      have q7 : (upd H7 p (.lst (xs ++ [v1]))) q = some (.lst ys) := by rw [upd_ne (fun z => hpq z.symm)]; exact e07 q _ hqx
      have p7 : (upd H7 p (.lst (xs ++ [v1]))) p = some (.lst (xs ++ [v1])) := upd_same
      have ex7 : Ex (hide (q :: p :: M) H7) (hide (q :: p :: M) (upd H7 p (.lst (xs ++ [v1])))) := by rw [hide_upd (by simp)]; exact Ex.refl _
      generalize upd H7 p (.lst (xs ++ [v1])) = H8 at f7 q7 p7 ex7
      have ex57 := (hide_ex (M := q :: p :: M) (e6.trans e7)).trans ex7
      refine s_append (K := K) f7.ok q7 rfl (ed_var (K := K) (i := 9) rfl (hvw.mono ex57)).eg (by have a := dpAll_len hys; have b := congrArg List.length hr0; rw [List.length_map] at a; rw [List.length_append] at b; have c := congrArg List.length hw0; rw [List.length_append] at c; have d := plays_len hpl0; omega) fun v2 H9 e9 hv2 => ?_
      dsimp only
      have f9 := (f7.gex e9).upd (a := q) (o := .lst (ys ++ [v2])) (by simp) (.inr hqH)
      have p9 : (upd H9 q (.lst (ys ++ [v2]))) p = some (.lst (xs ++ [v1])) := by rw [upd_ne hpq]; exact e9 p _ p7
      have q9 : (upd H9 q (.lst (ys ++ [v2]))) q = some (.lst (ys ++ [v2])) := upd_same
      have ex9 : Ex (hide (q :: p :: M) H9) (hide (q :: p :: M) (upd H9 q (.lst (ys ++ [v2])))) := by rw [hide_upd (by simp)]; exact Ex.refl _
      generalize upd H9 q (.lst (ys ++ [v2])) = H10 at f9 p9 q9 ex9
      have exa := (ex57.trans (hide_ex e9)).trans ex9
      have exb := ((hide_ex (M := q :: p :: M) e7).trans (ex7.trans (hide_ex e9))).trans ex9
      have exc := (hide_ex (M := q :: p :: M) (e5)).trans exa
      have hat : atI (subs.map dPlan) (WM.at_ x u.src % u.pane) = some (dPlan sub) := by
        have := atI_nat' (xs := subs.map dPlan) (k := (WM.at_ x u.src % u.pane).toNat) (x := dPlan sub) (by rw [List.getElem?_map, hsub2]; rfl)
        rwa [Int.toNat_of_nonneg (Int.emod_nonneg _ (by have := hu.pane.1; omega))] at this
      refine sd_set (K := K) (d := dPlan sub) f9.ok (ed_ixL (ds := subs.map dPlan) hat (ed_ixT (ds := [.str nm, .list (subs.map dPlan)]) (d := .list (subs.map dPlan)) rfl (ed_var rfl (hvp4.mono exc)) ed_int) (ed_varI rfl)) fun vp2 H11 e11 hvp2 => ?_
      dsimp only
      have exd := exb.trans (hide_ex e11)
      have exe := (hide_ex (M := q :: p :: M) e06).trans exd
      refine ⟨rds2.length, by simp, sub, mk', WM.moved m u x, rds2, wk2, rdD ++ [WM.at_ x u.src % u.pane], wkD ++ [u], vp2, z, xs ++ [v1], ys ++ [v2], _, _, rfl, f9.gex e11, ex1.trans exe, e11 p _ p9, e11 q _ q9, ?_, ?_, hvp2, hz.mono exd, WM.moved_vec hm hx, hpl2, by rw [List.append_assoc]; exact hr0, by rw [List.append_assoc]; exact hw0, plays_len hpl2, rfl⟩
      · rw [List.map_append]
        cases dp_int hv1
        exact dpAll_app (hxs.mono exe) (.cons (.int _) .nil)
      · rw [List.map_append]
        exact dpAll_app (hys.mono exe) (.cons (Dp.mono hv2 (ex9.trans (hide_ex e11))) .nil)
    · dsimp only
      have f4 := (fr.gex e4).back hsub
      cases hpl with
      | look _ _ _ _ => rw [dPlan] at hb; cases hb
      | none =>
      rw [List.append_nil] at hr0 hw0
      subst hr0; subst hw0
      have hpM : p ∉ M := hM.new hpH
      have hqM : q ∉ M := hM.new hqH
      have ex4 : Ex (hide (q :: p :: M) H') (hide M H4) := (hide_ex e4).trans (hide_less hsub)
      refine sg_ret f4.ok (eg_tup (K := K) (Ts := [tyVP rds0, dat K (dWins wk0)]) (by simp) (ega_cons (eg_tupleP (K := K) (ns := rds0) (ed_var rfl (.lst (sq_of (by rw [hide_out hpM]; exact e4 p _ hpx)) (hxs.mono ex4)))) (ega_d (ed_var rfl (.lst (sq_of (by rw [hide_out hqM]; exact e4 q _ hqx)) (hys.mono ex4))) ega_nil))) fun v H5 e5 h => hq v H5 (f4.out.trans e5) h)
end
end WL
end
section
set_option Elab.async false
set_option linter.all false
set_option maxRecDepth 100000
set_option maxHeartbeats 4000000
/-! LayI: the bag: expressions that change it. -/
namespace WL
open PySem PySem.Spec PyProof.Rows L2 Evl HeadW
structure BagAt (H : Hp) (b : Addr) (a t i : Int) (c : Addr) (cells : List Int) : Prop where
  at_b : H b = some (.lst [.int a, .int t, .int i, .ref c])
  at_c : H c = some (.lst (cells.map .int))
  big : 0 ≤ a
  turn : 0 ≤ t ∧ t < 2147483647
  idx : 0 ≤ i
  pos : ∀ x ∈ cells, 0 ≤ x
  len : cells.length ≤ 100
  ne : b ≠ c
def BagOk (H : Hp) (b c : Addr) : Prop := ∃ a t i cells, BagAt H b a t i c cells
theorem BagOk.up {H H' : Hp} {b c : Addr} (h : BagOk H b c) (e : Ex H H') : BagOk H' b c := by
  obtain ⟨a, t, i, cells, h⟩ := h
  exact ⟨a, t, i, cells, e _ _ h.at_b, e _ _ h.at_c, h.big, h.turn, h.idx, h.pos, h.len, h.ne⟩
theorem BagOk.upd {H : Hp} {b c p : Addr} {o : HO} (h : BagOk H b c) (hb : p ≠ b) (hc : p ≠ c) : BagOk (upd H p o) b c := by
  obtain ⟨a, t, i, cells, h⟩ := h
  exact ⟨a, t, i, cells, by rw [upd_ne hb.symm]; exact h.at_b, by rw [upd_ne hc.symm]; exact h.at_c, h.big, h.turn, h.idx, h.pos, h.len, h.ne⟩
theorem BagOk.fresh {H : Hp} {b c p : Addr} (h : BagOk H b c) (hp : H p = none) : p ≠ b ∧ p ≠ c := by
  obtain ⟨a, t, i, cells, h⟩ := h
  exact ⟨(fun z => by rw [z, h.at_b] at hp; cases hp), (fun z => by rw [z, h.at_c] at hp; cases hp)⟩
/-- expressions that may change the bag -/
def EB (b c : Addr) (M : List Addr) (te : TE) (σ : L2.St) (H : Hp) (T : Ty) : Prop :=
  ∀ H1, Fr [b] M H M H1 → BagOk H1 b c → ∀ Q : VK, (∀ v H2, Fr [b] M H1 M H2 → BagOk H2 b c → T.p v (hide M H2) → Q v H2) → te σ H1 Q
def tv (x : V) : TE := fun _ H Q => Q x H
section
variable {K : PySem.W.Frag} {b c : Addr} {M : List Addr} {σ : L2.St} {H H' : Hp} {ta tb te : TE} {T T0 U : Ty} {d : PyData} {D : Ends}
theorem Fr.refl1 {B : List Addr} (h : MOk M H) : Fr B M H M H := ⟨fun _ _ _ e => e, Ex.refl _, h⟩
theorem Fr.ofEx {B : List Addr} (h : MOk M H) (e : Ex H H') : Fr B M H M H' := (Fr.refl1 h).gex e
theorem Fr.comp {H2 : Hp} (f : Fr [b] M H M H') (g : Fr [b] M H' M H2) : Fr [b] M H M H2 := f.trans g fun _ h => .inl h
theorem Fr.weak {B B' M' : List Addr} (f : Fr B M H M' H') (h : ∀ a ∈ B, a ∈ B') : Fr B' M H M' H' := ⟨fun a o ha e => f.keep a o (fun z => ha (h a z)) e, f.vis, f.ok⟩
theorem ed_tv {x : V} (h : Dp K (hide M H) x d) : ED K M (tv x) σ H d := fun _ H1 e Q q => q x H1 (Ex.refl _) (h.mono (hide_ex e))
theorem eg_tv {x : V} (h : T.p x (hide M H)) : EG M (tv x) σ H T := fun _ H1 e Q q => q x H1 (Ex.refl _) (T.up (hide_ex e) h)
theorem eb_g (h : ∀ H1, Fr [b] M H M H1 → EG M te σ H1 T) : EB b c M te σ H T := fun H1 f B Q q => h H1 f f.ok H1 (Ex.refl _) Q fun v H2 e hv => q v H2 (Fr.ofEx f.ok e) (B.up e) hv
theorem eb_d (h : ∀ H1, Fr [b] M H M H1 → ED K M te σ H1 d) : EB b c M te σ H (dat K d) := eb_g h
theorem EB.wk (h : EB b c M te σ H T) (hw : ∀ v H', T.p v H' → U.p v H') : EB b c M te σ H U := fun H1 f B Q q => h H1 f B Q fun v H2 f2 B2 hv => q v H2 f2 B2 (hw _ _ hv)
theorem EB.later (h : EB b c M te σ H T) (f : Fr [b] M H M H') : EB b c M te σ H' T := fun H1 f1 B Q q => h H1 (f.comp f1) B Q q
theorem eb_bind {F : TE → TE} (h : EB b c M te σ H T0) (k : ∀ x H1, Fr [b] M H M H1 → T0.p x (hide M H1) → EB b c M (F (tv x)) σ H1 T) (hF : ∀ te σ H Q, F te σ H Q = te σ H fun x H1 => F (tv x) σ H1 Q := by intros; rfl) : EB b c M (F te) σ H T := fun H1 f B Q q => by
  rw [hF]
  refine h H1 f B _ fun v H2 f2 B2 hv => k v H2 (f.comp f2) hv H2 (Fr.refl1 f2.ok) B2 Q fun w H3 f3 B3 hw => q w H3 (f2.comp f3) B3 hw
/-- the last bind, into a pure rest -/
theorem eb_in {F : TE → TE} (h : EB b c M te σ H T0) (k : ∀ x H1, Fr [b] M H M H1 → T0.p x (hide M H1) → EG M (F (tv x)) σ H1 T) (hF : ∀ te σ H Q, F te σ H Q = te σ H fun x H1 => F (tv x) σ H1 Q := by intros; rfl) : EB b c M (F te) σ H T :=
  eb_bind h (fun x H1 f hx => eb_g fun H2 f2 => k x H2 (f.comp f2) (T0.up f2.vis hx)) hF
/-! statements -/
theorem sb_set {i : Nat} (hM : MOk M H) (B : BagOk H b c) (h : EB b c M te σ H T) (k : ∀ v H1, Fr [b] M H M H1 → BagOk H1 b c → T.p v (hide M H1) → D.nx (σ.set i (some v)) H1) : tAsg te (gName i) D σ H := h H (Fr.refl1 hM) B _ k
theorem sb_ret (hM : MOk M H) (B : BagOk H b c) (h : EB b c M te σ H T) (k : ∀ v H1, Fr [b] M H M H1 → BagOk H1 b c → T.p v (hide M H1) → D.rt v H1) : tRet te D σ H := h H (Fr.refl1 hM) B _ k
theorem sb_bind {g : TG} (hM : MOk M H) (B : BagOk H b c) (h : EB b c M te σ H T) (k : ∀ v H1, Fr [b] M H M H1 → BagOk H1 b c → T.p v (hide M H1) → g v σ H1 D.nx) : tAsg te g D σ H := h H (Fr.refl1 hM) B _ k
/-! calls -/
def SpB (R : List Ty → Ty → Prop) : Sp := fun vs H Q _ => ∃ M b c ws Ts T, MOk M H ∧ b ∈ M ∧ BagOk H b c ∧ vs = .ref b :: ws ∧ AllT (hide M H) ws Ts ∧ R Ts T ∧ ∀ v H', Fr [b] M H M H' → BagOk H' b c → T.p v (hide M H') → Q v H'
theorem spB_len {R : List Ty → Ty → Prop} {n : Nat} (h : ∀ Ts T, R Ts T → Ts.length = n) : ∀ vs H Q E, SpB R vs H Q E → vs.length = n + 1 := fun vs H Q E ⟨M, b, c, ws, Ts, T, _, _, _, e, h1, h2, _⟩ => by rw [e, List.length_cons, h1.len, h Ts T h2]
def EBA (b c : Addr) (M : List Addr) (ta : TA) (σ : L2.St) (H : Hp) (Ts : List Ty) : Prop :=
  ∀ H1, Fr [b] M H M H1 → BagOk H1 b c → ∀ Q : List V → Hp → Prop, (∀ vs H2, Fr [b] M H1 M H2 → BagOk H2 b c → AllT (hide M H2) vs Ts → Q vs H2) → ta σ H1 Q
theorem eba_g {t : TA} {Ts : List Ty} (h : ∀ H1, Fr [b] M H M H1 → EGA M t σ H1 Ts) : EBA b c M t σ H Ts := fun H1 f B Q q => h H1 f f.ok H1 (Ex.refl _) Q fun v H2 e hv => q v H2 (Fr.ofEx f.ok e) (B.up e) hv
theorem eba_nil : EBA b c M tNil σ H [] := fun H1 f B Q q => q _ H1 (Fr.refl1 f.ok) B .nil
theorem eba_cons {t : TA} {Ts : List Ty} (h : EB b c M te σ H T) (r : EBA b c M t σ H Ts) : EBA b c M (tCons te t) σ H (T :: Ts) := fun H1 f B Q q =>
  h H1 f B _ fun v H2 f2 B2 hv => r H2 (f.comp f2) B2 _ fun vs H3 f3 B3 hvs => q _ H3 (f2.comp f3) B3 (.cons (T.up f3.vis hv) hvs)
theorem eb_call {t : TA} {R : List Ty → Ty → Prop} {E : XK} {Ts : List Ty} {i : Nat} (hb : b ∈ M) (hi : σ[i]? = some (some (.ref b))) (h : EBA b c M t σ H Ts) (r : R Ts T) : EB b c M (tCall (SpB R) [] E (tCons (tVar i) t)) σ H T := fun H1 f B Q q =>
  ⟨_, hi, h H1 f B _ fun vs H2 f2 B2 hvs => ⟨M, b, c, vs, Ts, T, f2.ok, hb, B2, by simp, hvs, r, fun v H3 f3 B3 hv => q v H3 (f2.comp f3) B3 hv⟩⟩
/-- values whose exact form is not kept -/
theorem eb_callX {t : TA} {R : List Ty → Ty → Prop} {E : XK} {Ts : List Ty} {i : Nat} (hb : b ∈ M) (hi : σ[i]? = some (some (.ref b))) (h : EBA b c M t σ H Ts) (r : ∀ vs H', AllT H' vs Ts → ∃ Ts' T', AllT H' vs Ts' ∧ R Ts' T' ∧ ∀ v H'', T'.p v H'' → T.p v H'') : EB b c M (tCall (SpB R) [] E (tCons (tVar i) t)) σ H T := fun H1 f B Q q =>
  ⟨_, hi, h H1 f B _ fun vs H2 f2 B2 hvs => by
    obtain ⟨Ts', T', h1, h2, h3⟩ := r vs _ hvs
    exact ⟨M, b, c, vs, Ts', T', f2.ok, hb, B2, by simp, h1, h2, fun v H3 f3 B3 hv => q v H3 (f2.comp f3) B3 (h3 _ _ hv)⟩⟩
/-! [e for x in src] -/
theorem eb_lc {α : Type} {src : List α} {ty : α → Ty} {f : α → Ty} {wi : TI} {i : Nat} {vs : List Nat} (hb : b ∈ M) (hi : ∀ H1, Fr [b] M H M H1 → EI M wi σ H1 src ty) (hl : src.length ≤ 90000) (hw : ∀ x, wipe ((wipe σ vs).set i (some x)) vs = wipe σ vs)
    (he : ∀ M' H' x a, Ex (hide M H) (hide M' H') → b ∈ M' → a ∈ src → (ty a).p x (hide M' H') → EB b c M' te ((wipe σ vs).set i (some x)) H' (f a)) :
    EB b c M (tLc wi (gName i) tYes te vs) σ H (tyL K (src.map f)) := fun H1 f1 B Q q => hi H1 f1 f1.ok H1 (Ex.refl _) _ fun J H2 e2 gv => fun D hD => by
  have hM2 : MOk M H2 := f1.ok.ex e2
  have B2 := B.up e2
  have hDM : D ∉ M := hM2.new hD
  have fr0 : Fr [b] M H2 (D :: M) (upd H2 D (.lst [])) := (Fr.refl1 hM2).new hD
  refine ⟨fun k m H' => m = src.length - k ∧ k ≤ src.length ∧ Fr [b] M H2 (D :: M) H' ∧ BagOk H' b c ∧ ∃ ys, H' D = some (.lst ys) ∧ AllT (hide (D :: M) H') ys ((src.take k).map f), ⟨src.length, by simp, Nat.zero_le _, fr0, B2.up (Ex.new hD), [], upd_same, by simpa using AllT.nil⟩, ?_⟩
  rintro k m H' ⟨rfl, hi2, fr, B', ys, hy, hys⟩
  obtain ⟨g1, g2⟩ := gv (D :: M) H' fr.vis fr.ok
  have hylen := hys.len
  rw [List.length_map, List.length_take] at hylen
  by_cases hlt : k < src.length
  · have hsi : src[k]? = some src[k] := by simp [hlt]
    obtain ⟨g3, g4⟩ := g1 k src[k] hsi
    refine .inr ⟨g3, fun H4 => k + 1 ≤ src.length ∧ Fr [b] M H2 (D :: M) H4 ∧ BagOk H4 b c ∧ ∃ ys, H4 D = some (.lst ys) ∧ AllT (hide (D :: M) H4) ys ((src.take (k + 1)).map f), fun H4 h4 => ⟨src.length - (k + 1), by omega, rfl, h4⟩, fun x H4 y4 => ?_⟩
    obtain ⟨e4, t4⟩ := g4 x H4 y4
    have fr4 := fr.gex e4
    have B4 := B'.up e4
    have hfr : Ex (hide M H) (hide (D :: M) H4) := (f1.vis.trans (hide_ex e2)).trans fr4.vis
    have etake : src.take (k + 1) = src.take k ++ [src[k]] := by rw [List.take_add_one, hsi]; rfl
    refine ⟨hw x, ?_⟩
    unfold tYes
    change te ((wipe σ vs).set i (some x)) H4 _
    refine (he (D :: M) H4 x src[k] hfr (by simp [hb]) (by simp) t4 H4 (Fr.refl1 fr4.ok) B4 _ fun v H5 f5 B5 hv => ?_)
    have hbD : b ≠ D := fun z => hDM (z ▸ hb)
    have y5 : H5 D = some (.lst ys) := f5.keep D _ (by simp [hbD.symm]) (e4 D _ hy)
    have fr5 : Fr [b] M H2 (D :: M) H5 := fr4.trans f5 fun _ h => .inl h
    have B6 : BagOk (upd H5 D (.lst (ys ++ [v]))) b c := B5.upd (B2.fresh hD).1 (B2.fresh hD).2
    refine ⟨ys, y5, sz_lt (by omega), by omega, fr5.upd (by simp) (.inr hD), B6, ys ++ [v], upd_same, ?_⟩
    rw [hide_upd (by simp), etake, List.map_append]
    exact (hys.up ((hide_ex e4).trans f5.vis)).app (.cons hv .nil)
  · have ei : k = src.length := by omega
    subst ei
    refine .inl ⟨g2 _ (Nat.le_refl _), q _ H' ((Fr.ofEx f1.ok e2).comp (fr.back fun a ha => by simp [ha])) B' ⟨D, ys, rfl, sq_of (by rw [hide_out hDM]; exact hy), ?_⟩⟩
    rw [List.take_length] at hys
    exact hys.up (hide_less fun a ha => List.mem_cons_of_mem _ ha)
end
/-- a list in the heap itself -/
def tyLP (Ts : List Ty) : Ty := ⟨fun v H => ∃ a xs, v = .ref a ∧ H a = some (.lst xs) ∧ AllT H xs Ts, fun e ⟨a, xs, h1, h2, h3⟩ => ⟨a, xs, h1, e a _ h2, h3.up e⟩⟩
def tyBag : Ty := ⟨fun v H => ∃ b c, v = .ref b ∧ BagOk H b c, fun e ⟨b, c, h, h2⟩ => ⟨b, c, h, h2.up e⟩⟩
section
variable {K : PySem.W.Frag} {M : List Addr} {σ : L2.St} {H H' : Hp} {ta tb te : TE} {T T0 U : Ty} {α : Type} {src : List α} {ty : α → Ty}
/-- the same, and the list stands in the heap -/
theorem eg_lcP {wi : TI} {g : TG} {tt : TT} {vs : List Nat} (hi : EI M wi σ H src ty) (hl : src.length ≤ 90000) (p : α → Bool) (f : α → Ty)
    (ht : ∀ M' H' x a (i : Nat), Ex (hide M H) (hide M' H') → MOk M' H' → src[i]? = some a → (ty a).p x (hide M' H') → Turn M' g tt te vs σ x H' (p a) (f a)) :
    EG M (tLc wi g tt te vs) σ H (tyLP ((src.filter p).map f)) := fun hM H1 e Q q => hi hM H1 e _ fun J H2 e2 gv => fun D hD => by
  have hM2 : MOk M H2 := hM.ex (e.trans e2)
  have hDM : D ∉ M := hM2.new hD
  have fr0 : Fr [] M H2 (D :: M) (upd H2 D (.lst [])) := (Fr.refl hM2).new hD
  refine ⟨fun i m H' => m = src.length - i ∧ i ≤ src.length ∧ Fr [] M H2 (D :: M) H' ∧ ∃ ys, H' D = some (.lst ys) ∧ ys.length ≤ i ∧ AllT (hide (D :: M) H') ys (((src.take i).filter p).map f), ⟨src.length, by simp, Nat.zero_le _, fr0, [], upd_same, Nat.zero_le _, by simpa using AllT.nil⟩, ?_⟩
  rintro i m H' ⟨rfl, hi2, fr, ys, hy, hyl, hys⟩
  obtain ⟨g1, g2⟩ := gv (D :: M) H' fr.vis fr.ok
  by_cases hlt : i < src.length
  · have hsi : src[i]? = some src[i] := by simp [hlt]
    obtain ⟨g3, g4⟩ := g1 i src[i] hsi
    refine .inr ⟨g3, fun H4 => i + 1 ≤ src.length ∧ Fr [] M H2 (D :: M) H4 ∧ ∃ ys, H4 D = some (.lst ys) ∧ ys.length ≤ i + 1 ∧ AllT (hide (D :: M) H4) ys (((src.take (i + 1)).filter p).map f), fun H4 h4 => ⟨src.length - (i + 1), by omega, rfl, h4⟩, fun x H4 y4 => ?_⟩
    obtain ⟨e4, t4⟩ := g4 x H4 y4
    have fr4 := fr.gex e4
    have hfr : Ex (hide M H) (hide (D :: M) H4) := (hide_ex (e.trans e2)).trans fr4.vis
    have etake : src.take (i + 1) = src.take i ++ [src[i]] := by rw [List.take_add_one, hsi]; rfl
    refine ht (D :: M) H4 x src[i] i hfr fr4.ok hsi t4 fr4.ok H4 (Ex.refl _) _ _ (fun hb v H5 e5 h5 => ?_) (fun hb H5 e5 => ?_)
    · have e45 := e4.trans e5
      refine ⟨ys, e45 D _ hy, sz_lt (by omega), by omega, ?_⟩
      have fr5 := (fr.gex e45).upd (a := D) (o := .lst (ys ++ [v])) (by simp) (.inr hD)
      refine ⟨fr5, ys ++ [v], upd_same, by simp; omega, ?_⟩
      rw [hide_upd (by simp), etake, List.filter_append, List.map_append]
      refine (hys.up (hide_ex e45)).app ?_
      simp [hb]
      exact .cons h5 .nil
    · have e45 := e4.trans e5
      refine ⟨by omega, fr.gex e45, ys, e45 D _ hy, by omega, ?_⟩
      rw [etake, List.filter_append, List.map_append]
      simp [hb]
      have := hys.up (hide_ex e45)
      simpa using this
  · have ei : i = src.length := by omega
    subst ei
    refine .inl ⟨g2 _ (Nat.le_refl _), q _ H' (e2.trans fr.out) ⟨D, ys, rfl, by rw [hide_out hDM]; exact hy, ?_⟩⟩
    rw [List.take_length] at hys
    exact hys.up (hide_less fun a ha => List.mem_cons_of_mem _ ha)
theorem allT_ints {H : Hp} : ∀ {xs : List V} {ns : List Int}, AllT H xs (ns.map fun n => tI K n) → xs = ns.map V.int
  | _, [], .nil => rfl
  | _, n :: ns, .cons a b => by
    rw [List.map_cons, ← allT_ints b]
    exact congrArg (· :: _) (dp_int a)
theorem eg_bag {ta : TA} {ns : List Int} (hn : ns.length ≤ 100) (h0 : ∀ x ∈ ns, 0 ≤ x) (h : EGA M ta σ H [tI K 0, tI K 1234567891, tI K 0, tyLP (ns.map fun n => tI K n)]) : EG M (tLst ta) σ H tyBag := fun hM H1 e Q q =>
  h hM H1 e _ fun vs H2 e2 h2 => by
    obtain ⟨x1, x2, x3, x4, rfl, k1, k2, k3, k4⟩ := allT4 h2
    cases dp_int k1
    cases dp_int k2
    cases dp_int k3
    obtain ⟨c, xs, rfl, hc, hx⟩ := k4
    have ex := allT_ints hx
    subst ex
    refine ⟨by rw [h2.len]; exact sz_of (by simp), fun p hp => q _ _ (e2.trans (Ex.new hp)) ?_⟩
    have hpM := ((hM.ex (e.trans e2)).new hp)
    have hc2 := hide_sub _ _ _ _ hc
    have hpc : p ≠ c := fun z => by rw [z, hc2] at hp; cases hp
    refine ⟨p, c, rfl, 0, 1234567891, 0, ns, ?_, ?_, by omega, by omega, by omega, h0, hn, hpc⟩
    · rw [hide_out hpM]; exact upd_same
    · exact new_ex hp _ _ hc
end
end WL
end
section
set_option Elab.async false
set_option linter.all false
set_option maxRecDepth 100000
set_option maxHeartbeats 4000000
/-! D20: _law_bag, _law_take. -/
namespace WL
open PySem PySem.Spec PyProof.Rows L2 Evl HeadW
/-- xs[k], by values -/
def rGetL (K : PySem.W.Frag) : V → V → Hp → VK → Prop := fun x y H Q => ∃ p xs, ∃ k : Nat, ∃ v, x = .ref p ∧ y = .int k ∧ SqL K H p xs ∧ xs[k]? = some v ∧ Q v H
theorem pget_list {X : Cx} : PGet X (rGetL X.K) := by
  intro pins s σ H o i ov iv Q I r1 r2 ⟨p, xs, k, z, e1, e2, hq, he, q⟩
  subst e1; subst e2
  cases r1
  obtain ⟨t, rfl⟩ := r2
  obtain ⟨its, r, pl, hz⟩ := I.list hq
  obtain ⟨w, ew, rw'⟩ := r.get he
  have hl := r.length
  have hn := line63
  have hk : k < xs.length := (List.getElem?_eq_some_iff.mp he).1
  exact wpAny_getItem_list pl.isList (by omega) (by omega) (by simpa using ew) ⟨z, H, I, rw', q⟩
def tyEq (v : V) : Ty := ⟨fun x _ => x = v, fun _ h => h⟩
theorem BagAt.put {H : Hp} {b c : Addr} {a t i a' t' i' : Int} {cells : List Int} (h : BagAt H b a t i c cells) (h1 : 0 ≤ a') (h2 : 0 ≤ t' ∧ t' < 2147483647) (h3 : 0 ≤ i') : BagAt (upd H b (.lst [.int a', .int t', .int i', .ref c])) b a' t' i' c cells :=
  ⟨upd_same, by rw [upd_ne h.ne.symm]; exact h.at_c, h1, h2, h3, h.pos, h.len, h.ne⟩
theorem BagAt.ex {H H' : Hp} {b c : Addr} {a t i : Int} {cells : List Int} (h : BagAt H b a t i c cells) (e : Ex H H') : BagAt H' b a t i c cells := ⟨e _ _ h.at_b, e _ _ h.at_c, h.big, h.turn, h.idx, h.pos, h.len, h.ne⟩
section
variable {K : PySem.W.Frag} {b c : Addr} {M : List Addr} {σ : L2.St} {H H' : Hp} {ta tb te : TE} {T T0 U : Ty} {D : Ends} {t : TT} {tu tw : TS}
theorem s_ifW {k : Bool} (W : L2.St → Hp → Prop) (hM : MOk M H) (h : ET M t σ H k) (q : ∀ σ' H', W σ' H' → D.nx σ' H') (h1 : k = true → ∀ H1, Ex H H1 → (∀ σ' H', W σ' H' → D.nx σ' H') → tu D σ H1) (h2 : k = false → ∀ H1, Ex H H1 → (∀ σ' H', W σ' H' → D.nx σ' H') → tw D σ H1) : tIfS t tu tw D σ H :=
  sd_if hM h (fun e H1 e1 => h1 e H1 e1 q) (fun e H1 e1 => h2 e H1 e1 q)
theorem eg_rd {i k : Nat} {p : Addr} {xs : List V} {v : V} (hi : σ[i]? = some (some (.ref p))) (hp : H p = some (.lst xs)) (hk : xs[k]? = some v) : EG M (tOp (rIxL K) (tVar i) (tC (.int k))) σ H (tyEq v) := fun hM H1 e Q q =>
  ⟨_, hi, p, xs, k, v, rfl, rfl, sq_of (e p _ hp), atI_nat' hk, q v H1 (Ex.refl _) rfl⟩
theorem ed_rd {i k : Nat} {p : Addr} {xs : List V} {x : Int} (hi : σ[i]? = some (some (.ref p))) (hp : H p = some (.lst xs)) (hk : xs[k]? = some (.int x)) : ED K M (tOp (rIxL K) (tVar i) (tC (.int k))) σ H (.int x) := fun hM H1 e Q q =>
  ⟨_, hi, p, xs, k, _, rfl, rfl, sq_of (e p _ hp), atI_nat' hk, q _ H1 (Ex.refl _) (.int _)⟩
theorem ed_lenR {p : Addr} {xs : List V} (hp : H p = some (.lst xs)) (h : EG M te σ H (tyEq (.ref p))) : ED K M (tCB (fun xs H Q => ∃ x n, xs = [x] ∧ LenV K x H n ∧ Q (.int n) H) (tCons te tNil)) σ H (.int (xs.length : Int)) := fun hM H1 e Q q =>
  h hM H1 e _ fun v H2 e2 hv => ⟨v, xs.length, rfl, by rw [show v = .ref p from hv]; exact lenV_l (sq_of ((e.trans e2) p _ hp)), q _ H2 e2 (.int _)⟩
theorem ed_ixR {p : Addr} {xs : List V} {k : Nat} {x : Int} (hp : H p = some (.lst xs)) (h : EG M te σ H (tyEq (.ref p))) (h2 : ED K M tb σ H (.int (k : Int))) (hk : xs[k]? = some (.int x)) : ED K M (tOp (rIxL K) te tb) σ H (.int x) := fun hM H1 e Q q =>
  h hM H1 e _ fun v H2 e2 hv => h2 hM H2 (e.trans e2) _ fun u H3 e3 hu => ⟨p, xs, k, _, hv, dp_int hu, sq_of (((e.trans e2).trans e3) p _ hp), atI_nat' hk, q _ H3 (e2.trans e3) (.int _)⟩
theorem s_setC {i k : Nat} {l : Addr} {xs : List V} (hM : MOk M H) (hl : H l = some (.lst xs)) (hi : σ[i]? = some (some (.ref l))) (hk : k < xs.length) (h : EG M te σ H T)
    (q : ∀ v H1, Ex H H1 → T.p v (hide M H1) → D.nx σ (upd H1 l (.lst (xs.set k v)))) : tAsg te (gSub (tVar i) (tC (.int (k : Int))) rSetL) D σ H :=
  h hM H (Ex.refl H) _ fun v H1 e hv => ⟨.ref l, hi, l, xs, k, k, rfl, rfl, e l _ hl, by unfold ixN; rw [if_pos (by omega), if_pos (by omega)]; rfl, q v H1 e hv⟩
end
section
variable {w : World} {K : PySem.W.Frag} {mg : Str → Option Value} {base : Heap}
abbrev N_law_bag : List Str := ["_law_script", "_law_cell"]
theorem sc_law_bag : FnScope N_law_bag ["_law_script"] d_law_bag.scope := ⟨rfl, rfl, rfl, by decide +kernel, rfl, by decide +kernel, by decide +kernel⟩
theorem bi_law_bag (kV doc pm : Value) (an : Option Addr) (cdv ct : Value) (us : List Value) (hl : us.length = 1) : bindArgs (PySem.W.fnOf d_law_bag.name d_law_bag.qual d_law_bag.params d_law_bag.body d_law_bag.scope .none kV doc pm an cdv ct) ⟨us, []⟩ = pure ((["_law_script"] : List Str).zip us) := by
  match us, hl with
  | [_], _ => rfl

def R_law_bag (K : PySem.W.Frag) (Ts : List Ty) (T : Ty) : Prop := ∃ ns : List Int, Ts = [dat K (.list (ns.map .int))] ∧ ns.length ≤ 63 ∧ T = tyBag
theorem cal_law_bag (G : Glb w K mg base) : C8.Cal PP w K mg base 1 "_law_bag" (SpT (R_law_bag K)) [] :=
  cal_mk G 47 (d := d_law_bag) rfl rfl G.g_law_bag rfl sc_law_bag (spT_len fun Ts T ⟨_, h, _⟩ => by rw [h]; rfl) bi_law_bag (fun f cdv A outer s H vs Q E hr hsp => by
    obtain ⟨M, Ts, T, hM, hv, ⟨ns, rfl, hn, rfl⟩, hq⟩ := hsp
    obtain ⟨v1, rfl, h1⟩ := allT1 hv
    refine ⟨_, (pss_one (ps_ret (pe_lst (pa_cons pe_int (pa_cons pe_int (pa_cons pe_int (pa_cons (pe_lc (own := [("_law_cell", 1)]) (g := (gName 1)) (tt := tYes) rfl sc_law_bag.nd (pi_list (pe_slice sl_list (pv 0) po_none (po_some pe_int))) (blkOk_by (N := N_law_bag) (sc := d_law_bag.scope) (by decide +kernel)) (fun _ _ _ _ _ => (pg_name (i := 1) sc_law_bag.nd rfl (by first | exact Or.inl rfl | exact Or.inr rfl))) (fun _ _ _ _ _ => pts_nil) (fun _ _ _ _ _ => (pe_callB (id := "abs") call_abs (by rfl) G.f_abs (by decide +kernel) (pa_cons (pv 1) pa_nil)))) pa_nil))))))), ?_⟩
    refine sg_ret hM (eg_bag (K := K) (ns := ns.map fun n => if n < 0 then -n else n) (by simp; omega) (fun x hx => by
      obtain ⟨n, _, rfl⟩ := List.mem_map.mp hx
      split <;> omega) (ega_cons (ed_int (K := K)).eg (ega_cons (ed_int (K := K)).eg (ega_cons (ed_int (K := K)).eg (ega_one ?_))))) fun v H1 e1 h => hq v H1 e1 h
    refine (eg_lcP (σ := [some v1, none]) (H := H) (src := ns) (ty := fun n => tI K n) (p := fun _ => true) (f := fun n => tI K (if n < 0 then -n else n)) (ei_l ?_) (by omega) fun M' H' x a i ex hM' hi hx => turn_name rfl et_yes fun _ => ?_).to ?_
    · refine (eg_slL (K := K) (eg_var rfl (dp_tyL h1)) (fun _ _ => eo_none) (fun H1 e1 => eo_some (K := K) (hM.ex e1) (ed_int (K := K)))).to ?_
      rw [show (63 : Int) = ((63 : Nat) : Int) from rfl, cutT_up, List.take_of_length_le (by simp; omega)]
      rw [List.map_map]
      rfl
    · cases dp_int hx
      exact (ed_abs (K := K) (ed_varI rfl)).eg
    · rw [filt_all, List.map_map]
      rfl)
abbrev N_law_take : List Str := ["_law_bag_here", "_law_many", "_law_cell", "_law_value", "_law_first", "_law_second"]
theorem sc_law_take : FnScope N_law_take ["_law_bag_here", "_law_many"] d_law_take.scope := ⟨rfl, rfl, rfl, by decide +kernel, rfl, by decide +kernel, by decide +kernel⟩
theorem bi_law_take (kV doc pm : Value) (an : Option Addr) (cdv ct : Value) (us : List Value) (hl : us.length = 2) : bindArgs (PySem.W.fnOf d_law_take.name d_law_take.qual d_law_take.params d_law_take.body d_law_take.scope .none kV doc pm an cdv ct) ⟨us, []⟩ = pure ((["_law_bag_here", "_law_many"] : List Str).zip us) := by
  match us, hl with
  | [_, _], _ => rfl

def tIn (K : PySem.W.Frag) (lo hi : Int) : Ty := tyEx (fun i : Int => lo ≤ i ∧ i < hi) (fun i => tI K i)
def R_law_take (K : PySem.W.Frag) (Ts : List Ty) (T : Ty) : Prop := ∃ m : Int, Ts = [tI K m] ∧ 0 < m ∧ m < 1000000 ∧ T = tIn K 0 m
theorem cal_law_take (G : Glb w K mg base) : C8.Cal PP w K mg base 1 "_law_take" (SpB (R_law_take K)) [] :=
  cal_mk G 48 (d := d_law_take) rfl rfl G.g_law_take rfl sc_law_take (spB_len fun Ts T ⟨_, h, _⟩ => by rw [h]; rfl) bi_law_take (fun f cdv A outer s H vs Q E hr hsp => by
    obtain ⟨M, b, c, ws, Ts, T, hM, hbM, hB, rfl, hv, ⟨m, rfl, hm, hm2, rfl⟩, hq⟩ := hsp
    obtain ⟨v1, rfl, h1⟩ := allT1 hv
    cases dp_int h1
    refine ⟨_, (pss_cons (ps_if (pt_cmpR op_eq (pe_ix ix_list (pv 0) pe_int (fun _ _ => rfl)) pe_int (nomark _)) (pss_cons (ps_set (i := 2) sc_law_take.nd rfl (by first | exact Or.inl rfl | exact Or.inr rfl) pe_int)
      (pss_cons (ps_if (pt_cmpR op_lt (pe_ix ix_list (pv 0) pe_int (fun _ _ => rfl)) (pe_callB (id := "len") call_len (by rfl) G.f_len (by decide +kernel) (pa_cons (pe_ix ix_list (pv 0) pe_int (fun _ _ => rfl)) pa_nil)) (nomark _)) (pss_one (ps_set (i := 2) sc_law_take.nd rfl (by first | exact Or.inl rfl | exact Or.inr rfl) (pe_ix ix_list (pe_ix ix_list (pv 0) pe_int (fun _ _ => rfl)) (pe_ix ix_list (pv 0) pe_int (fun _ _ => rfl)) (fun _ _ => rfl)))) pss_nil)
      (pss_cons (ps_augS (pv 0) pe_int pget_list pe_int ip_add set_list)
      (pss_cons (ps_if (pt_cmpR op_ge (pv 2) pe_int (nomark _)) (pss_one (ps_asg (pv 2) (pg_sub (pv 0) pe_int set_list))) pss_nil)
      (pss_one (ps_asg (pe_op op_mod (pe_op op_add (pe_op op_add (pe_op op_mul (pe_ix ix_list (pv 0) pe_int (fun _ _ => rfl)) pe_int) (pe_op op_mod (pv 2) pe_int)) (pe_op op_mul pe_int (pe_ix ix_list (pv 0) pe_int (fun _ _ => rfl)))) pe_int) (pg_sub (pv 0) pe_int set_list))))))) pss_nil)
      (pss_cons (ps_if (pt_cmpR op_gt (pe_ix ix_list (pv 0) pe_int (fun _ _ => rfl)) pe_int (nomark _)) (pss_cons (ps_set (i := 3) sc_law_take.nd rfl (by first | exact Or.inl rfl | exact Or.inr rfl) (pe_op op_mod (pe_ix ix_list (pv 0) pe_int (fun _ _ => rfl)) (pv 1)))
      (pss_cons (ps_asg (pe_op op_fdiv (pe_ix ix_list (pv 0) pe_int (fun _ _ => rfl)) (pv 1)) (pg_sub (pv 0) pe_int set_list))
      (pss_one (ps_ret (pv 3))))) pss_nil)
      (pss_cons (ps_set (i := 4) sc_law_take.nd rfl (by first | exact Or.inl rfl | exact Or.inr rfl) (pe_op op_mod (pe_op op_mul (pe_op op_add (pe_ix ix_list (pv 0) pe_int (fun _ _ => rfl)) pe_int) pe_int) pe_int))
      (pss_cons (ps_set (i := 5) sc_law_take.nd rfl (by first | exact Or.inl rfl | exact Or.inr rfl) (pe_op op_mod (pe_op op_mul (pe_op op_mod (pe_op op_mul (pv 4) (pv 4)) pe_int) pe_int) pe_int))
      (pss_cons (ps_if (pt_cmpR op_gt (pv 1) pe_int (nomark _)) (pss_one (ps_ret (pe_op op_mod (pe_op op_add (pe_op op_mul (pv 5) pe_int) (pv 4)) (pv 1)))) pss_nil)
      (pss_one (ps_ret (pe_op op_mod (pe_op op_fdiv (pv 5) pe_int) (pv 1))))))))), ?_⟩
    obtain ⟨a, t, i, cells, B⟩ := hB
    refine s_ifW (fun σ' H' => ∃ y2, σ' = [some (.ref b), some (.int m), y2, none, none, none] ∧ Fr [b] M H M H' ∧ BagOk H' b c) hM (et_test (ed_eqI (K := K) (ed_rd (k := 0) rfl B.at_b rfl) ed_int)) ?_ ?_ fun _ H1 e1 k => k _ H1 ⟨none, rfl, Fr.ofEx hM e1, BagOk.up (b := b) (c := c) ⟨_, _, _, _, B⟩ e1⟩
    · dsimp only
      rintro σ' H' ⟨y2, rfl, fr, a, t, i, cells, B⟩
      refine sd_if fr.ok (et_test (ed_cmp (K := K) (ed_rd (k := 0) rfl B.at_b rfl) ed_int)) (fun hb H1 e1 => ?_) fun hb H1 e1 => ?_
      · have f1 := fr.gex e1
        have B1 := B.ex e1
        refine sd_set (K := K) (d := .int (a % m)) f1.ok (ed_mod hm (ed_rd (k := 0) rfl B1.at_b rfl) (ed_varI rfl)) fun v H2 e2 hv => ?_
        cases dp_int hv
        dsimp only
        have B2 := B1.ex e2
        refine s_setC (k := 0) (f1.gex e2).ok B2.at_b rfl (by simp) (ed_fdiv (K := K) ⟨hm, by omega⟩ (ed_rd (k := 0) rfl B2.at_b rfl) (ed_varI rfl)).eg fun v H3 e3 hv => ?_
        cases dp_int hv
        dsimp only
        have B3 := (B2.ex e3).put (a' := a / m) (t' := t) (i' := i) (Int.ediv_nonneg B.big (by omega)) B.turn B.idx
        have f3 := ((f1.gex e2).gex e3).upd (a := b) (o := .lst [.int (a / m), .int t, .int i, .ref c]) hbM (.inl (by simp))
        refine sd_ret (K := K) (d := .int (a % m)) f3.ok (ed_varI rfl) fun v H4 e4 hv => hq v H4 (f3.gex e4) (BagOk.up ⟨_, _, _, _, B3⟩ e4) ⟨a % m, ⟨Int.emod_nonneg _ (by omega), Int.emod_lt_of_pos _ hm⟩, hv⟩
      · have f1 := fr.gex e1
        have B1 := B.ex e1
        have t1 := B.turn
        refine sd_set (K := K) (d := .int ((t + 1) * 39373 % 1000000007)) f1.ok (ed_mod (by omega) (ed_mul (cmulR (by omega)) (ed_add (ed_rd (k := 1) rfl B1.at_b rfl) ed_int) ed_int) ed_int) fun v H2 e2 hv => ?_
        cases dp_int hv
        dsimp only
        have q1 := Int.emod_nonneg ((t + 1) * 39373) (b := 1000000007) (by omega)
        have q2 := Int.emod_lt_of_pos ((t + 1) * 39373) (b := 1000000007) (by omega)
        generalize (t + 1) * 39373 % 1000000007 = z at q1 q2
        refine sd_set (K := K) (d := .int (z * z % 998244353 * 30011 % 998244353)) (f1.gex e2).ok (ed_mod (by omega) (ed_mul (cmulR (by omega)) (ed_mod (by omega) (ed_mul (cmulR (by omega)) (ed_varI rfl) (ed_varI rfl)) ed_int) ed_int) ed_int) fun v H3 e3 hv => ?_
        cases dp_int hv
        dsimp only
        have f3 := (f1.gex e2).gex e3
        have B3 := (B1.ex e2).ex e3
        refine sd_if f3.ok (et_test (ed_cmp (K := K) (ed_varI rfl) ed_int)) (fun hb H4 e4 => ?_) fun hb H4 e4 => ?_
        · simp only [decide_eq_true_eq] at hb
          omega
        · dsimp only
          refine sd_ret (K := K) (d := .int (z * z % 998244353 * 30011 % 998244353 / 7 % m)) (f3.gex e4).ok (ed_mod hm (ed_fdiv ⟨by omega, by omega⟩ (ed_varI rfl) ed_int) (ed_varI rfl)) fun v H5 e5 hv => hq v H5 ((f3.gex e4).gex e5) (BagOk.up ⟨_, _, _, _, B3⟩ (e4.trans e5)) ⟨_, ⟨Int.emod_nonneg _ (by omega), Int.emod_lt_of_pos _ hm⟩, hv⟩
    · intro hb H1 e1 k
      have f1 := Fr.ofEx (B := [b]) hM e1
      have B1 := B.ex e1
      refine sd_set (K := K) (d := .int 0) f1.ok ed_int fun v H2 e2 hv => ?_
      cases dp_int hv
      dsimp only
      have f2 := f1.gex e2
      have B2 := B1.ex e2
      refine s_ifW (fun σ' H' => ∃ x : Int, 0 ≤ x ∧ σ' = [some (.ref b), some (.int m), some (.int x), none, none, none] ∧ Fr [b] M H M H' ∧ BagAt H' b a t i c cells) f2.ok (et_test (ed_cmp (K := K) (ed_rd (k := 2) rfl B2.at_b rfl) (ed_lenR (xs := cells.map .int) B2.at_c (eg_rd (K := K) (k := 3) rfl B2.at_b rfl)))) ?_ ?_ fun _ H3 e3 k2 => k2 _ H3 ⟨0, by omega, rfl, f2.gex e3, B2.ex e3⟩
      · rintro σ' H' ⟨x, hx, rfl, fr, B⟩
        dsimp only
        refine ⟨_, rfl, ⟨b, _, 2, _, rfl, rfl, sq_of B.at_b, rfl, _, _, rfl, rfl, b, _, 2, 2, rfl, rfl, B.at_b, rfl, ?_⟩⟩
        have B3 := B.put (a' := a) (t' := t) (i' := i + 1) B.big B.turn (by have := B.idx; omega)
        have f3 := fr.upd (a := b) (o := .lst [.int a, .int t, .int (i + 1), .ref c]) hbM (.inl (by simp))
        refine s_ifW (fun σ' H' => ∃ a', σ' = [some (.ref b), some (.int m), some (.int x), none, none, none] ∧ Fr [b] M H M H' ∧ BagAt H' b a' t (i + 1) c cells) f3.ok (et_test (ed_cmp (K := K) (ed_varI rfl) ed_int)) ?_ ?_ fun _ H3 e3 k2 => k2 _ H3 ⟨a, rfl, f3.gex e3, B3.ex e3⟩
        · rintro σ' H' ⟨a', rfl, fr, B⟩
          dsimp only
          refine s_setC (k := 1) fr.ok B.at_b rfl (by simp) (ed_mod (K := K) (by omega) (ed_add (ed_add (ed_mul (cmulR (by omega)) (ed_rd (k := 1) rfl B.at_b rfl) ed_int) (ed_mod (by omega) (ed_varI rfl) ed_int)) (ed_mul (cmulL (by omega)) ed_int (ed_rd (k := 2) rfl B.at_b rfl))) ed_int).eg fun v H4 e4 hv => ?_
          cases dp_int hv
          dsimp only
          refine k _ _ ⟨_, rfl, (fr.gex e4).upd hbM (.inl (by simp)), _, _, _, _, (B.ex e4).put (t' := (t * 48271 + x % 2147483647 + 7919 * (i + 1)) % 2147483647) B.big ⟨Int.emod_nonneg _ (by omega), Int.emod_lt_of_pos _ (by omega)⟩ B.idx⟩
        · intro hb H3 e3 k2
          refine s_setC (k := 0) (f3.gex e3).ok (B3.ex e3).at_b rfl (by simp) (ed_varI (K := K) rfl).eg fun v H4 e4 hv => ?_
          cases dp_int hv
          dsimp only
          exact k2 _ _ ⟨x, rfl, ((f3.gex e3).gex e4).upd hbM (.inl (by simp)), ((B3.ex e3).ex e4).put (a' := x) hx B3.turn B3.idx⟩
      · intro hb H3 e3 k2
        simp only [decide_eq_true_eq, List.length_map] at hb
        have h0 := B2.idx
        have f3 := f2.gex e3
        have B3 := B2.ex e3
        have hlt : i.toNat < cells.length := by omega
        refine sd_set (K := K) (d := .int cells[i.toNat]) f3.ok (ed_ixR (k := i.toNat) (xs := cells.map .int) B3.at_c (eg_rd (k := 3) rfl B3.at_b rfl) (by rw [Int.toNat_of_nonneg h0]; exact ed_rd (k := 2) rfl B3.at_b rfl) (by simp [hlt])) fun v H4 e4 hv => ?_
        cases dp_int hv
        dsimp only
        exact k2 _ _ ⟨_, B2.pos _ (List.getElem_mem hlt), rfl, f3.gex e4, B3.ex e4⟩)
end
end WL
end
section
set_option Elab.async false
set_option linter.all false
set_option maxRecDepth 100000
set_option maxHeartbeats 4000000
/-! LayJ: more of expressions that change the bag. -/
namespace WL
open PySem PySem.Spec PyProof.Rows L2 Evl HeadW
section
variable {K : PySem.W.Frag} {b c : Addr} {M : List Addr} {σ : L2.St} {H H' : Hp} {ta tb te : TE} {T T0 T1 T2 U : Ty} {d : PyData} {D : Ends} {r : R2} {Ts : List Ty}
theorem eb_op (ha : EB b c M ta σ H T1) (hb : EB b c M tb σ H T2) (k : ∀ x y H1, Fr [b] M H M H1 → T1.p x (hide M H1) → T2.p y (hide M H1) → EG M (tOp r (tv x) (tv y)) σ H1 T) : EB b c M (tOp r ta tb) σ H T :=
  eb_bind (F := fun t => tOp r t tb) ha fun x H1 f1 hx => eb_in (F := fun t => tOp r (tv x) t) (hb.later f1) fun y H2 f2 hy => k x y H2 (f1.comp f2) (T1.up f2.vis hx) hy
theorem eb_lst {t : TA} (hl : Ts.length ≤ 100000) (h : EBA b c M t σ H Ts) : EB b c M (tLst t) σ H (tyL K Ts) := fun H1 f B Q q =>
  h H1 f B _ fun vs H2 f2 B2 h2 => ⟨by rw [h2.len]; exact sz_of hl, fun p hp => q _ _ (f2.gex (Ex.new hp)) (B2.up (Ex.new hp)) ⟨p, vs, rfl, sq_of (by rw [hide_out (f2.ok.new hp)]; exact upd_same), h2.up (new_ex hp)⟩⟩
theorem eb_tup {t : TA} (hl : Ts.length ≤ 100000) (h : EBA b c M t σ H Ts) : EB b c M (tTup t) σ H (tyU K Ts) := fun H1 f B Q q =>
  h H1 f B _ fun vs H2 f2 B2 h2 => ⟨by rw [h2.len]; exact sz_of hl, fun p hp => q _ _ (f2.gex (Ex.new hp)) (B2.up (Ex.new hp)) ⟨p, vs, rfl, st_of (by rw [hide_out (f2.ok.new hp)]; exact upd_same), h2.up (new_ex hp)⟩⟩
theorem eb_one {t : TE} (h : EB b c M t σ H T) : EBA b c M (tCons t tNil) σ H [T] := eba_cons h eba_nil
theorem eb_int {i : Int} : EB b c M (tC (.int i)) σ H (tI K i) := eb_d fun _ _ => ed_int
theorem eb_varI {k : Nat} {i : Int} (h : σ[k]? = some (some (.int i))) : EB b c M (tVar k) σ H (tI K i) := eb_d fun _ _ => ed_varI h
theorem eb_var {k : Nat} {v : V} (h : σ[k]? = some (some v)) (hv : T.p v (hide M H)) : EB b c M (tVar k) σ H T := eb_g fun H1 f => eg_var h (T.up f.vis hv)
/-- an item of a list, each item being in U -/
theorem eb_ixAll {n : Nat} (ha : EB b c M ta σ H (tyL K Ts)) (hb : EB b c M tb σ H (tIn K 0 n)) (hn : n ≤ Ts.length) (hU : ∀ T ∈ Ts, ∀ v H', T.p v H' → U.p v H') : EB b c M (tOp (rIxL K) ta tb) σ H U := eb_op ha hb fun x y H1 f hx hy => fun hM H2 e Q q => by
  obtain ⟨i, ⟨i0, i1⟩, hi⟩ := hy
  obtain ⟨a, xs, rfl, hs, hxs⟩ := (tyL K Ts).up (hide_ex e) hx
  have hlt : i.toNat < Ts.length := by omega
  have hT : Ts[i.toNat]? = some Ts[i.toNat] := by simp [hlt]
  obtain ⟨v, ev, hv⟩ := hxs.get hT
  refine ⟨a, xs, i, v, rfl, dp_int hi, ex_l (hide_sub _ _) hs, ?_, q v H2 (Ex.refl _) (hU _ (List.getElem_mem hlt) _ _ hv)⟩
  have := atI_nat' ev
  rwa [Int.toNat_of_nonneg i0] at this
theorem tIn_wk {lo hi lo' hi' : Int} (h1 : lo' ≤ lo) (h2 : hi ≤ hi') : ∀ v H', (tIn K lo hi).p v H' → (tIn K lo' hi').p v H' := fun v H' ⟨i, ⟨a, b⟩, h⟩ => ⟨i, ⟨by omega, by omega⟩, h⟩
theorem tI_in {i lo hi : Int} (h1 : lo ≤ i) (h2 : i < hi) : ∀ v H', (tI K i).p v H' → (tIn K lo hi).p v H' := fun v H' h => ⟨i, ⟨h1, h2⟩, h⟩
theorem allT_in {lo hi : Int} {α : Type} {H : Hp} : ∀ {l : List α} {xs : List V}, AllT H xs (l.map fun _ => tIn K lo hi) → ∃ ns : List Int, xs = ns.map V.int ∧ ns.length = l.length ∧ ∀ a ∈ ns, lo ≤ a ∧ a < hi
  | [], _, h => by
    cases h
    exact ⟨[], rfl, rfl, by simp⟩
  | _ :: l, _, h => by
    cases h with
    | cons a h2 =>
      obtain ⟨i, hi, hd⟩ := a
      obtain ⟨ns, rfl, h3, h4⟩ := allT_in h2
      refine ⟨i :: ns, by rw [dp_int hd]; rfl, by simp [h3], fun a ha => ?_⟩
      rcases List.mem_cons.mp ha with e | e
      · rw [e]; exact hi
      · exact h4 a e
theorem dpAll_intsL {H : Hp} (ns : List Int) : DpAll K H (ns.map V.int) (ns.map PyData.int) := dpAll_ints ns
/-- a list of numbers within bounds -/
def tyIns (K : PySem.W.Frag) (n : Nat) (lo hi : Int) : Ty := tyEx (fun ns : List Int => ns.length = n ∧ ∀ a ∈ ns, lo ≤ a ∧ a < hi) (fun ns => dat K (.list (ns.map .int)))
theorem tyL_ins {α : Type} {l : List α} {lo hi : Int} : ∀ v H', (tyL K (l.map fun _ => tIn K lo hi)).p v H' → (tyIns K l.length lo hi).p v H' := fun v H' ⟨a, xs, e, hs, hx⟩ => by
  obtain ⟨ns, rfl, h3, h4⟩ := allT_in hx
  exact ⟨ns, ⟨h3, h4⟩, by rw [e]; exact .lst hs (dpAll_intsL ns)⟩
theorem eb_add {lo hi lo' hi' : Int} (ha : EB b c M ta σ H (tIn K lo hi)) (hb : EB b c M tb σ H (tIn K lo' hi')) : EB b c M (tOp (rI0 fun i j => .int (i + j)) ta tb) σ H (tIn K (lo + lo') (hi + hi' - 1)) := eb_op ha hb fun x y H1 f ⟨i, h1, k1⟩ ⟨j, h2, k2⟩ => (ed_add (K := K) (ed_tv k1) (ed_tv k2)).eg.wk fun v H' h => ⟨i + j, ⟨by omega, by omega⟩, h⟩
end
end WL
end
section
set_option Elab.async false
set_option linter.all false
set_option maxRecDepth 100000
set_option maxHeartbeats 4000000
/-! D21: _law_small, _law_vector, _law_great. -/
namespace WL
open PySem PySem.Spec PyProof.Rows L2 Evl HeadW
def smalls : List (Nat × Nat) := [(2, 1), (2, 2), (2, 3), (2, 4), (2, 5), (2, 6), (3, 1), (3, 2), (3, 3), (4, 2), (4, 3), (5, 2), (6, 2), (7, 2), (8, 2), (60, 1), (12, 1), (3, 4), (4, 4), (6, 3), (9, 2), (12, 2), (16, 2), (2, 6)]
def SmallOk (p : Nat × Nat) : Prop := 2 ≤ p.1 ∧ p.1 ≤ 60 ∧ 1 ≤ p.2 ∧ p.2 ≤ 6 ∧ p.1 ^ p.2 ≤ 256
instance (p : Nat × Nat) : Decidable (SmallOk p) := by unfold SmallOk; infer_instance
theorem smalls_ok : ∀ p ∈ smalls, SmallOk p := by decide
abbrev dNP (p : Nat × Nat) : PyData := .tuple [.int p.1, .int p.2]
section
variable {w : World} {K : PySem.W.Frag} {mg : Str → Option Value} {base : Heap}
abbrev N_law_small : List Str := ["_law_bag_here", "_law_some"]
theorem sc_law_small : FnScope N_law_small ["_law_bag_here"] d_law_small.scope := ⟨rfl, rfl, rfl, by decide +kernel, rfl, by decide +kernel, by decide +kernel⟩
theorem bi_law_small (kV doc pm : Value) (an : Option Addr) (cdv ct : Value) (us : List Value) (hl : us.length = 1) : bindArgs (PySem.W.fnOf d_law_small.name d_law_small.qual d_law_small.params d_law_small.body d_law_small.scope .none kV doc pm an cdv ct) ⟨us, []⟩ = pure ((["_law_bag_here"] : List Str).zip us) := by
  match us, hl with
  | [_], _ => rfl

def R_law_small (K : PySem.W.Frag) (Ts : List Ty) (T : Ty) : Prop := Ts = [] ∧ T = tyEx SmallOk (fun p => dat K (dNP p))
theorem cal_law_small (G : Glb w K mg base) : C8.Cal PP w K mg base 2 "_law_small" (SpB (R_law_small K)) [] :=
  cal_mk G 53 (d := d_law_small) rfl rfl G.g_law_small rfl sc_law_small (spB_len fun Ts T ⟨h, _⟩ => by rw [h]; rfl) bi_law_small (fun f cdv A outer s H vs Q E hr hsp => by
    obtain ⟨M, b, c, ws, Ts, T, hM, hbM, hB, rfl, hv, ⟨rfl, rfl⟩, hq⟩ := hsp
    cases hv
    refine ⟨_, (pss_cons (ps_set (i := 1) sc_law_small.nd rfl (by first | exact Or.inl rfl | exact Or.inr rfl) (pe_lst (pa_cons (pe_tup (pa_cons pe_int (pa_cons pe_int pa_nil))) (pa_cons (pe_tup (pa_cons pe_int (pa_cons pe_int pa_nil))) (pa_cons (pe_tup (pa_cons pe_int (pa_cons pe_int pa_nil))) (pa_cons (pe_tup (pa_cons pe_int (pa_cons pe_int pa_nil))) (pa_cons (pe_tup (pa_cons pe_int (pa_cons pe_int pa_nil))) (pa_cons (pe_tup (pa_cons pe_int (pa_cons pe_int pa_nil))) (pa_cons (pe_tup (pa_cons pe_int (pa_cons pe_int pa_nil))) (pa_cons (pe_tup (pa_cons pe_int (pa_cons pe_int pa_nil))) (pa_cons (pe_tup (pa_cons pe_int (pa_cons pe_int pa_nil))) (pa_cons (pe_tup (pa_cons pe_int (pa_cons pe_int pa_nil))) (pa_cons (pe_tup (pa_cons pe_int (pa_cons pe_int pa_nil))) (pa_cons (pe_tup (pa_cons pe_int (pa_cons pe_int pa_nil))) pa_nil))))))))))))))
      (pss_cons (ps_set (i := 1) sc_law_small.nd rfl (by first | exact Or.inl rfl | exact Or.inr rfl) (pe_op op_catS (pv 1) (pe_lst (pa_cons (pe_tup (pa_cons pe_int (pa_cons pe_int pa_nil))) (pa_cons (pe_tup (pa_cons pe_int (pa_cons pe_int pa_nil))) (pa_cons (pe_tup (pa_cons pe_int (pa_cons pe_int pa_nil))) (pa_cons (pe_tup (pa_cons pe_int (pa_cons pe_int pa_nil))) (pa_cons (pe_tup (pa_cons pe_int (pa_cons pe_int pa_nil))) (pa_cons (pe_tup (pa_cons pe_int (pa_cons pe_int pa_nil))) (pa_cons (pe_tup (pa_cons pe_int (pa_cons pe_int pa_nil))) (pa_cons (pe_tup (pa_cons pe_int (pa_cons pe_int pa_nil))) (pa_cons (pe_tup (pa_cons pe_int (pa_cons pe_int pa_nil))) (pa_cons (pe_tup (pa_cons pe_int (pa_cons pe_int pa_nil))) (pa_cons (pe_tup (pa_cons pe_int (pa_cons pe_int pa_nil))) (pa_cons (pe_tup (pa_cons pe_int (pa_cons pe_int pa_nil))) pa_nil)))))))))))))))
      (pss_one (ps_ret (pe_ix ix_list (pv 1) (C8.pe_c (cal_law_take G) hr (by decide) (by rfl) (pa_cons (pv 0) (pa_cons (pe_ix ix_list (pe_lst (pa_cons pe_int (pa_cons pe_int pa_nil))) (pe_callTy (T := "int") call_int1 (by rfl) G.f_int (by decide +kernel) (pa_cons (pe_cmpR op_eq (C8.pe_c (cal_law_take G) hr (by decide) (by rfl) (pa_cons (pv 0) (pa_cons pe_int pa_nil))) pe_int (nomark _)) pa_nil)) (fun _ _ => rfl)) pa_nil))) (fun _ _ => rfl)))))), ?_⟩
    refine sd_set (K := K) (d := .list ((smalls.take 12).map dNP)) hM (ed_lst (by simp [smalls]) (by
      repeat (first | exact ea_nil | refine ea_cons (ed_tup (by simp) (ea_cons ed_int (ea_one ed_int))) ?_))) fun v1 H1 e1 h1 => ?_
    dsimp only
    refine sg_set (hM.ex e1) (eg_catL (K := K) (Ts := ((smalls.take 12).map dNP).map (dat K)) (Us := ((smalls.drop 12).map dNP).map (dat K)) (by simp [smalls]) (eg_var rfl (dp_tyL h1)) (EG.wk (T := dat K (.list ((smalls.drop 12).map dNP))) (ED.eg (ed_lst (K := K) (by simp [smalls]) (by
      repeat (first | exact ea_nil | refine ea_cons (ed_tup (by simp) (ea_cons ed_int (ea_one ed_int))) ?_)))) fun v H' h => dp_tyL h)) fun v2 H2 e2 h2 => ?_
    dsimp only
    have f2 := Fr.ofEx (B := [b]) hM (e1.trans e2)
    have B2 := hB.up (e1.trans e2)
    have hTs : ((smalls.take 12).map dNP).map (dat K) ++ ((smalls.drop 12).map dNP).map (dat K) = smalls.map fun p => dat K (dNP p) := by
      rw [← List.map_append, ← List.map_append, List.take_append_drop, List.map_map]
      rfl
    rw [hTs] at h2
    refine sb_ret f2.ok B2 (eb_ixAll (K := K) (n := 24) (U := tyEx SmallOk (fun p => dat K (dNP p))) (eb_var rfl h2) (eb_callX (R := R_law_take K) hbM rfl (eba_cons (T := tyEx (fun i : Int => i = 14 ∨ i = 24) (tI K)) ?_ eba_nil) ?_) (by simp [smalls]) ?_) fun v H3 f3 B3 hv => hq v H3 (f2.comp f3) B3 hv
    · refine eb_ixAll (n := 2) (Ts := [tI K 14, tI K 24]) (eb_g fun H4 f4 => eg_lst (by simp) (ega_cons (ed_int (K := K)).eg (ega_one (ed_int (K := K)).eg))) (eb_in (F := fun t => tCB _ (tCons (tOp _ t _) tNil)) (eb_call (T := tIn K 0 8) (R := R_law_take K) hbM rfl (eb_one eb_int) ⟨8, rfl, by omega, by omega, rfl⟩) fun x H4 f4 ⟨i, hi, hx⟩ => ?_) (by simp) ?_
      · refine EG.wk (T := dat K (.int (if decide (i = 0) = true then 1 else 0))) (ed_intB (K := K) (ed_eqI (ed_tv hx) ed_int)).eg fun v H' h => ⟨_, ⟨?_, ?_⟩, h⟩
        · split <;> omega
        · split <;> omega
      · intro T hT v H' h
        simp only [List.mem_cons, List.not_mem_nil, or_false] at hT
        rcases hT with e | e
        · subst e; exact ⟨14, .inl rfl, h⟩
        · subst e; exact ⟨24, .inr rfl, h⟩
    · intro vs H' h
      obtain ⟨v, rfl, i, hi, hd⟩ := allT1 h
      exact ⟨[tI K i], tIn K 0 i, .cons hd .nil, ⟨i, rfl, by omega, by omega, rfl⟩, tIn_wk (by omega) (by omega)⟩
    · intro T hT v H' h
      obtain ⟨p, hp, rfl⟩ := List.mem_map.mp hT
      exact ⟨p, smalls_ok p hp, h⟩)
abbrev N_law_vector : List Str := ["_law_bag_here", "_law_modulus", "_law_width", "_law_k"]
theorem sc_law_vector : FnScope N_law_vector ["_law_bag_here", "_law_modulus", "_law_width"] d_law_vector.scope := ⟨rfl, rfl, rfl, by decide +kernel, rfl, by decide +kernel, by decide +kernel⟩
theorem bi_law_vector (kV doc pm : Value) (an : Option Addr) (cdv ct : Value) (us : List Value) (hl : us.length = 3) : bindArgs (PySem.W.fnOf d_law_vector.name d_law_vector.qual d_law_vector.params d_law_vector.body d_law_vector.scope .none kV doc pm an cdv ct) ⟨us, []⟩ = pure ((["_law_bag_here", "_law_modulus", "_law_width"] : List Str).zip us) := by
  match us, hl with
  | [_, _, _], _ => rfl

def R_law_vector (K : PySem.W.Frag) (Ts : List Ty) (T : Ty) : Prop := ∃ (m : Int) (n : Nat), Ts = [tI K m, tI K n] ∧ 0 < m ∧ m < 1000000 ∧ n ≤ 1000 ∧ T = tyEx (WM.Vec m n) (tV K)
theorem cal_law_vector (G : Glb w K mg base) : C8.Cal PP w K mg base 2 "_law_vector" (SpB (R_law_vector K)) [] :=
  cal_mk G 54 (d := d_law_vector) rfl rfl G.g_law_vector rfl sc_law_vector (spB_len fun Ts T ⟨_, _, h, _⟩ => by rw [h]; rfl) bi_law_vector (fun f cdv A outer s H vs Q E hr hsp => by
    obtain ⟨M, b, c, ws, Ts, T, hM, hbM, hB, rfl, hv, ⟨m, n, rfl, hm, hm2, hn, rfl⟩, hq⟩ := hsp
    obtain ⟨v1, v2, rfl, h1, h2⟩ := allT2 hv
    cases dp_int h1
    cases dp_int h2
    refine ⟨_, (pss_one (ps_ret (pe_callTy (T := "tuple") call_tuple_of (by rfl) G.f_tuple (by decide +kernel) (pa_cons (pe_lc (own := [("_law_k", 3)]) (g := (gName 3)) (tt := tYes) rfl sc_law_vector.nd (pi_range1 (by rfl) G.f_range (pa_cons (pv 2) pa_nil)) (blkOk_by (N := N_law_vector) (sc := d_law_vector.scope) (by decide +kernel)) (fun _ _ _ _ _ => (pg_name (i := 3) sc_law_vector.nd rfl (by first | exact Or.inl rfl | exact Or.inr rfl))) (fun _ _ _ _ _ => pts_nil) (fun _ _ _ _ _ => (C8.pe_c (cal_law_take G) hr (by decide) (by rfl) (pa_cons (pv 0) (pa_cons (pv 1) pa_nil))))) pa_nil)))), ?_⟩
    refine sb_ret hM hB (eb_in (F := fun t => tCB _ (tCons t tNil)) ((eb_lc (K := K) (src := List.range n) (f := fun _ => tIn K 0 m) hbM (fun H1 f1 => ei_r1 (K := K) (by omega) (ea_one (ed_varI rfl))) (by simp; omega) (fun _ => rfl) fun M' H' x a ex hb' ha hx => eb_call (R := R_law_take K) hb' rfl (eb_one (eb_varI rfl)) ⟨m, rfl, hm, hm2, rfl⟩).wk tyL_ins) fun x H1 f1 ⟨ns, ⟨hl, hr⟩, hx⟩ => EG.wk (T := dat K (dV ns)) (U := tyEx (WM.Vec m n) (tV K)) (ed_tupleOf (K := K) (ed_tv hx)).eg fun v H' h => ⟨ns, ⟨by rw [hl]; simp, hr⟩, h⟩) fun v H1 f1 B1 hv => hq v H1 f1 B1 hv)
/-- a modulus and a width -/
def GreatOk (p : Nat × Nat) : Prop := 2 ≤ p.1 ∧ p.1 ≤ 60 ∧ 1 ≤ p.2 ∧ p.2 ≤ 6
abbrev N_law_great : List Str := ["_law_bag_here", "_law_modulus"]
theorem sc_law_great : FnScope N_law_great ["_law_bag_here"] d_law_great.scope := ⟨rfl, rfl, rfl, by decide +kernel, rfl, by decide +kernel, by decide +kernel⟩
theorem bi_law_great (kV doc pm : Value) (an : Option Addr) (cdv ct : Value) (us : List Value) (hl : us.length = 1) : bindArgs (PySem.W.fnOf d_law_great.name d_law_great.qual d_law_great.params d_law_great.body d_law_great.scope .none kV doc pm an cdv ct) ⟨us, []⟩ = pure ((["_law_bag_here"] : List Str).zip us) := by
  match us, hl with
  | [_], _ => rfl

def R_law_great (K : PySem.W.Frag) (Ts : List Ty) (T : Ty) : Prop := Ts = [] ∧ T = tyEx GreatOk (fun p => dat K (dNP p))
theorem cal_law_great (G : Glb w K mg base) : C8.Cal PP w K mg base 2 "_law_great" (SpB (R_law_great K)) [] :=
  cal_mk G 63 (d := d_law_great) rfl rfl G.g_law_great rfl sc_law_great (spB_len fun Ts T ⟨h, _⟩ => by rw [h]; rfl) bi_law_great (fun f cdv A outer s H vs Q E hr hsp => by
    obtain ⟨M, b, c, ws, Ts, T, hM, hbM, hB, rfl, hv, ⟨rfl, rfl⟩, hq⟩ := hsp
    cases hv
    refine ⟨_, (pss_cons (ps_set (i := 1) sc_law_great.nd rfl (by first | exact Or.inl rfl | exact Or.inr rfl) (pe_ix ix_list (pe_lst (pa_cons (pe_op op_add pe_int (C8.pe_c (cal_law_take G) hr (by decide) (by rfl) (pa_cons (pv 0) (pa_cons pe_int pa_nil)))) (pa_cons (pe_ix ix_list (pe_lst (pa_cons pe_int (pa_cons pe_int (pa_cons pe_int (pa_cons pe_int (pa_cons pe_int (pa_cons pe_int pa_nil))))))) (C8.pe_c (cal_law_take G) hr (by decide) (by rfl) (pa_cons (pv 0) (pa_cons pe_int pa_nil))) (fun _ _ => rfl)) pa_nil))) (C8.pe_c (cal_law_take G) hr (by decide) (by rfl) (pa_cons (pv 0) (pa_cons pe_int pa_nil))) (fun _ _ => rfl)))
      (pss_one (ps_ret (pe_tup (pa_cons (pv 1) (pa_cons (pe_op op_add pe_int (C8.pe_c (cal_law_take G) hr (by decide) (by rfl) (pa_cons (pv 0) (pa_cons pe_int pa_nil)))) pa_nil)))))), ?_⟩
    have tk : ∀ (σ : L2.St) (H : Hp) (m : Int), 0 < m → m < 1000000 → σ[0]? = some (some (.ref b)) → ∀ E, EB b c M (tCall (SpB (R_law_take K)) [] E (tCons (tVar 0) (tCons (tC (.int m)) tNil))) σ H (tIn K 0 m) := fun σ H m h1 h2 h0 E => eb_call (R := R_law_take K) hbM h0 (eb_one eb_int) ⟨m, rfl, h1, h2, rfl⟩
    refine sb_set hM hB (eb_ixAll (K := K) (n := 2) (Ts := [tIn K 2 61, tIn K 2 61]) (U := tIn K 2 61) (eb_lst (by simp) (eba_cons ((eb_add (lo := 2) (hi := 3) (eb_int.wk (tI_in (by omega) (by omega))) (tk _ _ _ (by omega) (by omega) rfl _)).wk (tIn_wk (by omega) (by omega))) (eb_one (eb_ixAll (n := 6) (Ts := [tI K 60, tI K 48, tI K 32, tI K 36, tI K 59, tI K 49]) (eb_lst (by simp) (eba_cons eb_int (eba_cons eb_int (eba_cons eb_int (eba_cons eb_int (eba_cons eb_int (eb_one eb_int))))))) (tk _ _ _ (by omega) (by omega) rfl _) (by simp) ?_)))) (tk _ _ _ (by omega) (by omega) rfl _) (by simp) ?_) fun v1 H1 f1 B1 ⟨m, hm, h1⟩ => ?_
    · intro T hT v H' h
      simp only [List.mem_cons, List.not_mem_nil, or_false] at hT
      rcases hT with e | e | e | e | e | e <;> subst e <;> exact tI_in (by omega) (by omega) v H' h
    · intro T hT v H' h
      simp only [List.mem_cons, List.not_mem_nil, or_false] at hT
      rcases hT with e | e <;> subst e <;> exact h
    · cases dp_int h1
      dsimp only
      refine sb_ret f1.ok B1 (EB.wk (eb_tup (K := K) (Ts := [tI K m, tIn K 1 7]) (by simp) (eba_cons (eb_varI rfl) (eb_one ((eb_add (lo := 1) (hi := 2) (eb_int.wk (tI_in (by omega) (by omega))) (tk _ _ _ (by omega) (by omega) rfl _)).wk (tIn_wk (by omega) (by omega)))))) (U := tyEx GreatOk (fun p => dat K (dNP p))) fun v H' ⟨a, xs, e, hs, hx⟩ => ?_) fun v H2 f2 B2 hv => hq v H2 (f1.comp f2) B2 hv
      obtain ⟨y, z, rfl, hy, i, hi, hz⟩ := allT2 hx
      refine ⟨(m.toNat, i.toNat), ⟨by show 2 ≤ m.toNat; omega, by show m.toNat ≤ 60; omega, by show 1 ≤ i.toNat; omega, by show i.toNat ≤ 6; omega⟩, ?_⟩
      rw [e]
      show Dp K H' (.ref a) (.tuple [.int (m.toNat : Int), .int (i.toNat : Int)])
      rw [Int.toNat_of_nonneg (by omega), Int.toNat_of_nonneg (by omega)]
      exact .tup hs (.cons hy (.cons hz .nil)))
end
end WL
end
section
set_option Elab.async false
set_option linter.all false
set_option maxRecDepth 100000
set_option maxHeartbeats 4000000
/-! D22: _law_names. -/
namespace WL
open PySem PySem.Spec PyProof.Rows L2 Evl HeadW
section
variable {K : PySem.W.Frag} {M : List Addr} {σ : L2.St} {H H' : Hp} {ta tb te : TE}
theorem ed_slS {x : Str} {lo hi : Option Int} {tl th : TO} (hz : x.length ≤ 1000) (h : ED K M te σ H (.str x)) (h1 : ∀ H1, Ex H H1 → EO tl σ H1 lo) (h2 : ∀ H1, Ex H H1 → EO th σ H1 hi) : ED K M (L2.tSl C8.rSlX te tl th) σ H (.str (Txt.slice x lo hi)) := fun hM H1 e Q q =>
  h hM H1 e _ fun v H2 e2 hv => h1 H2 (e.trans e2) H2 (Ex.refl _) _ fun H3 e3 => h2 H3 ((e.trans e2).trans e3) H3 (Ex.refl _) _ fun H4 e4 => ⟨x, dp_str hv, Nat.le_trans hz (by rw [sizeLine_eq]; decide), q _ H4 ((e2.trans e3).trans e4) (.str _)⟩
theorem ed_addS {x y : Str} (hz : x.length + y.length ≤ 1000) (ha : ED K M ta σ H (.str x)) (hb : ED K M tb σ H (.str y)) : ED K M (tOp (fun x y H Q => ∃ i j, x = .str i ∧ y = .str j ∧ i.length + j.length ≤ sizeLine ∧ Q (.str (i ++ j)) H) ta tb) σ H (.str (x ++ y)) :=
  ed_op ha hb fun _ u v H1 _ h1 h2 Q q => ⟨x, y, dp_str h1, dp_str h2, Nat.le_trans hz (by rw [sizeLine_eq]; decide), q _ H1 (Ex.refl H1) (.str _)⟩
theorem allT_strs {H : Hp} {P : Nat → Prop} {α : Type} : ∀ {l : List α} {xs : List V}, AllT H xs (l.map fun _ => tyEx P (fun c : Nat => tS K (SX.S [c]))) → ∃ cs : List Nat, xs = cs.map (fun c => V.str (SX.S [c])) ∧ cs.length = l.length ∧ ∀ c ∈ cs, P c
  | [], _, h => by
    cases h
    exact ⟨[], rfl, rfl, by simp⟩
  | _ :: l, _, h => by
    cases h with
    | cons a h2 =>
      obtain ⟨i, hi, hd⟩ := a
      obtain ⟨ns, rfl, h3, h4⟩ := allT_strs h2
      refine ⟨i :: ns, by rw [dp_str hd]; rfl, by simp [h3], fun a ha => ?_⟩
      rcases List.mem_cons.mp ha with e | e
      · rw [e]; exact hi
      · exact h4 a e
theorem eb_m1 {b c : Addr} {T0 T : Ty} {r : V → List V → Hp → VK → Prop} {sep : Str} (h : EB b c M te σ H T0) (k : ∀ x H1, Fr [b] M H M H1 → T0.p x (hide M H1) → EG M (tM1 r (tC (.str sep)) (tv x)) σ H1 T) : EB b c M (tM1 r (tC (.str sep)) te) σ H T := fun H1 f B Q q =>
  ⟨⟨_, rfl⟩, h H1 f B _ fun v H2 f2 B2 hv => (k v H2 (f.comp f2) hv f2.ok H2 (Ex.refl _) Q fun u H3 e3 hu => q u H3 (f2.gex e3) (B2.up e3) hu).2⟩
theorem sum_one {cs : List Nat} : ((cs.map fun c => SX.S [c]).map (·.length)).sum = cs.length := by
  induction cs with
  | nil => rfl
  | cons a cs ih =>
    rw [List.map_cons, List.map_cons, List.sum_cons, ih, SX.S_len]
    simp
    omega
end
abbrev abc : Str := "abcdefghijklmnopqrstuvwxyz"
theorem abc_list : abc.cps.toList = (List.range 26).map (97 + ·) := by decide +kernel
theorem abc_len : abc.length = 26 := by decide +kernel
theorem abc_at {i : Int} (h0 : 0 ≤ i) (h : i < 26) : atI abc.cps.toList i = some (97 + i.toNat) := by
  have := atI_nat' (xs := abc.cps.toList) (k := i.toNat) (x := 97 + i.toNat) (by rw [abc_list, List.getElem?_map, List.getElem?_range (by omega)]; rfl)
  rwa [Int.toNat_of_nonneg h0] at this
theorem joinL_one : ∀ cs : List Nat, TL.joinL [] (cs.map fun c => [c]) = cs
  | [] => rfl
  | [c] => rfl
  | c :: d :: cs => by
    have := joinL_one (d :: cs)
    rw [List.map_cons, List.map_cons, TL.joinL, ← List.map_cons (f := fun c : Nat => [c]), this]
    rfl
theorem join_one (cs : List Nat) : Txt.join (SX.S []) (cs.map fun c => SX.S [c]) = SX.S cs := by
  have := SX.join_S [] (cs.map fun c => [c])
  rw [List.map_map, joinL_one] at this
  exact this
def nameL (cs : List Nat) (a s k : Nat) : List Nat := cs.take a ++ [97 + (s + 3 * k) % 26] ++ cs.drop (a + 1)
theorem nodup_mapOn {α β : Type} {f : α → β} : ∀ {l : List α}, (∀ x ∈ l, ∀ y ∈ l, f x = f y → x = y) → l.Nodup → (l.map f).Nodup
  | [], _, _ => .nil
  | a :: l, h, hn => by
    rw [List.nodup_cons] at hn
    rw [List.map_cons, List.nodup_cons]
    refine ⟨fun hm => ?_, nodup_mapOn (fun x hx y hy => h x (by simp [hx]) y (by simp [hy])) hn.2⟩
    obtain ⟨x, hx, e⟩ := List.mem_map.mp hm
    exact hn.1 (h x (by simp [hx]) a (by simp) e ▸ hx)
theorem nameL_len {cs : List Nat} {a s k : Nat} (h : a < cs.length) : (nameL cs a s k).length = cs.length := by
  unfold nameL
  simp
  omega
theorem nameL_rng {cs : List Nat} {a s k : Nat} (h : ∀ c ∈ cs, 97 ≤ c ∧ c ≤ 122) : ∀ c ∈ nameL cs a s k, 97 ≤ c ∧ c ≤ 122 := fun c hc => by
  unfold nameL at hc
  simp only [List.mem_append, List.mem_cons, List.not_mem_nil, or_false] at hc
  rcases hc with (z | z) | z
  · exact h c (List.mem_of_mem_take z)
  · omega
  · exact h c (List.mem_of_mem_drop z)
theorem nameL_inj {cs : List Nat} {a s k k' : Nat} (h : a < cs.length) (hk : k < 26) (hk' : k' < 26) (e : nameL cs a s k = nameL cs a s k') : k = k' := by
  unfold nameL at e
  rw [List.append_assoc, List.append_assoc] at e
  have e2 := List.append_cancel_left e
  injection e2 with e3 _
  omega
section
variable {w : World} {K : PySem.W.Frag} {mg : Str → Option Value} {base : Heap}
abbrev N_law_names : List Str := ["_law_bag_here", "_law_many", "_law_letters", "_law_size_here", "_law_base", "_law_k", "_law_at", "_law_shift"]
theorem sc_law_names : FnScope N_law_names ["_law_bag_here", "_law_many"] d_law_names.scope := ⟨rfl, rfl, rfl, by decide +kernel, rfl, by decide +kernel, by decide +kernel⟩
theorem bi_law_names (kV doc pm : Value) (an : Option Addr) (cdv ct : Value) (us : List Value) (hl : us.length = 2) : bindArgs (PySem.W.fnOf d_law_names.name d_law_names.qual d_law_names.params d_law_names.body d_law_names.scope .none kV doc pm an cdv ct) ⟨us, []⟩ = pure ((["_law_bag_here", "_law_many"] : List Str).zip us) := by
  match us, hl with
  | [_, _], _ => rfl

def R_law_names (K : PySem.W.Frag) (Ts : List Ty) (T : Ty) : Prop := ∃ n : Nat, Ts = [tI K n] ∧ n ≤ 26 ∧ T = tyEx (fun ns : List Str => ns.length = n ∧ ns.Nodup ∧ ∀ s ∈ ns, NameOk s) (fun ns => dat K (.list (ns.map .str)))
theorem cal_law_names (G : Glb w K mg base) : C8.Cal PP w K mg base 2 "_law_names" (SpB (R_law_names K)) [] :=
  cal_mk G 50 (d := d_law_names) rfl rfl G.g_law_names rfl sc_law_names (spB_len fun Ts T ⟨_, h, _⟩ => by rw [h]; rfl) bi_law_names (fun f cdv A outer s H vs Q E hr hsp => by
    obtain ⟨M, b, c, ws, Ts, T, hM, hbM, hB, rfl, hv, ⟨n, rfl, hn, rfl⟩, hq⟩ := hsp
    obtain ⟨v1, rfl, h1⟩ := allT1 hv
    cases dp_int h1
    refine ⟨_, (pss_cons (ps_set (i := 2) sc_law_names.nd rfl (by first | exact Or.inl rfl | exact Or.inr rfl) pe_str)
      (pss_cons (ps_set (i := 3) sc_law_names.nd rfl (by first | exact Or.inl rfl | exact Or.inr rfl) (pe_op op_add pe_int (C8.pe_c (cal_law_take G) hr (by decide) (by rfl) (pa_cons (pv 0) (pa_cons pe_int pa_nil)))))
      (pss_cons (ps_set (i := 4) sc_law_names.nd rfl (by first | exact Or.inl rfl | exact Or.inr rfl) (pe_join pe_str (pe_lc (own := [("_law_k", 5)]) (g := (gName 5)) (tt := tYes) rfl sc_law_names.nd (pi_range1 (by rfl) G.f_range (pa_cons (pv 3) pa_nil)) (blkOk_by (N := N_law_names) (sc := d_law_names.scope) (by decide +kernel)) (fun _ _ _ _ _ => (pg_name (i := 5) sc_law_names.nd rfl (by first | exact Or.inl rfl | exact Or.inr rfl))) (fun _ _ _ _ _ => pts_nil) (fun _ _ _ _ _ => (pe_ix ix_str (pv 2) (C8.pe_c (cal_law_take G) hr (by decide) (by rfl) (pa_cons (pv 0) (pa_cons pe_int pa_nil))) (fun _ _ => rfl))))))
      (pss_cons (ps_asg (pe_tup (pa_cons (C8.pe_c (cal_law_take G) hr (by decide) (by rfl) (pa_cons (pv 0) (pa_cons (pv 3) pa_nil))) (pa_cons (C8.pe_c (cal_law_take G) hr (by decide) (by rfl) (pa_cons (pv 0) (pa_cons pe_int pa_nil))) pa_nil))) (pg_tup rfl (pgs_cons (pg_name (i := 6) sc_law_names.nd rfl (by first | exact Or.inl rfl | exact Or.inr rfl)) (pgs_cons (pg_name (i := 7) sc_law_names.nd rfl (by first | exact Or.inl rfl | exact Or.inr rfl)) pgs_nil))))
      (pss_one (ps_ret (pe_lc (own := [("_law_k", 5)]) (g := (gName 5)) (tt := tYes) rfl sc_law_names.nd (pi_range1 (by rfl) G.f_range (pa_cons (pv 1) pa_nil)) (blkOk_by (N := N_law_names) (sc := d_law_names.scope) (by decide +kernel)) (fun _ _ _ _ _ => (pg_name (i := 5) sc_law_names.nd rfl (by first | exact Or.inl rfl | exact Or.inr rfl))) (fun _ _ _ _ _ => pts_nil) (fun _ _ _ _ _ => (pe_op op_add_str (pe_op op_add_str (pe_slice C8.sl_txt (pv 4) po_none (po_some (pv 6))) (pe_ix ix_str (pv 2) (pe_op op_mod (pe_op op_add (pv 7) (pe_op op_mul pe_int (pv 5))) pe_int) (fun _ _ => rfl))) (pe_slice C8.sl_txt (pv 4) (po_some (pe_op op_add (pv 6) pe_int)) po_none)))))))))), ?_⟩
    have tk : ∀ (M : List Addr) (σ : L2.St) (H : Hp) (m : Int), b ∈ M → 0 < m → m < 1000000 → σ[0]? = some (some (.ref b)) → ∀ E, EB b c M (tCall (SpB (R_law_take K)) [] E (tCons (tVar 0) (tCons (tC (.int m)) tNil))) σ H (tIn K 0 m) := fun M σ H m hb h1 h2 h0 E => eb_call (R := R_law_take K) hb h0 (eb_one eb_int) ⟨m, rfl, h1, h2, rfl⟩
    refine sd_set (K := K) (d := .str abc) hM ed_str fun va H1 e1 ha => ?_
    cases dp_str ha
    dsimp only
    have f1 := Fr.ofEx (B := [b]) hM e1
    refine sb_set f1.ok (hB.up e1) ((eb_add (K := K) (lo := 1) (hi := 2) (eb_int.wk (tI_in (by omega) (by omega))) (tk _ _ _ _ hbM (by omega) (by omega) rfl _)).wk (tIn_wk (by omega) (by omega)) (U := tIn K 1 9)) fun v2 H2 f2 B2 ⟨z, hz, hv2⟩ => ?_
    cases dp_int hv2
    dsimp only
    obtain ⟨z, rfl⟩ : ∃ y : Nat, z = (y : Int) := ⟨z.toNat, by omega⟩
    refine sb_set f2.ok B2 (T := tyEx (fun cs : List Nat => cs.length = z ∧ ∀ c ∈ cs, 97 ≤ c ∧ c ≤ 122) (fun cs => tS K (SX.S cs))) ?_ fun v3 H3 f3 B3 ⟨cs, ⟨hcl, hcr⟩, hv3⟩ => ?_
    · refine eb_m1 (eb_lc (K := K) (src := List.range z) (f := fun _ => tyEx (fun c : Nat => 97 ≤ c ∧ c ≤ 122) (fun c : Nat => tS K (SX.S [c]))) hbM (fun H1 f1 => ei_r1 (K := K) (by omega) (ea_one (ed_varI rfl))) (by simp; omega) (fun _ => rfl) fun M' H' x a ex hb' ha hx => ?_) fun x H4 f4 ⟨p, xs, e, hs, hx⟩ => ?_
      · refine eb_op (T1 := tS K abc) (eb_d fun H5 f5 => ed_var rfl (.str _)) (tk _ _ _ 26 hb' (by omega) (by omega) rfl _) fun x y H5 f5 hx ⟨i, hi, hy⟩ => EG.wk (T := dat K (.str ⟨#[97 + i.toNat]⟩)) (ed_ixS (K := K) (by rw [abc_len, sizeLine_eq]; decide) (abc_at hi.1 hi.2) (ed_tv hx) (ed_tv hy)).eg fun v H' h => ⟨97 + i.toNat, ⟨by omega, by omega⟩, h⟩
      · obtain ⟨cs, rfl, hl, hr⟩ := allT_strs hx
        subst e
        exact fun hM5 H5 e5 Q q => ⟨⟨_, rfl⟩, SX.S [], p, cs.map (fun c => SX.S [c]), rfl, rfl, .inl (by rw [List.map_map]; exact ex_l (hide_sub _ _) (ex_l (hide_ex e5) hs)), by rw [sum_one, List.length_map, SX.S_len]; simp at hl ⊢; omega, q _ H5 (Ex.refl _) ⟨cs, ⟨by simpa using hl, hr⟩, by rw [join_one]; exact .str _⟩⟩
    · cases dp_str hv3
      dsimp only
      refine sb_bind f3.ok B3 (eb_tup (K := K) (Ts := [tIn K 0 z, tIn K 0 26]) (by simp) (eba_cons (eb_call (R := R_law_take K) hbM rfl (eb_one (eb_varI rfl)) ⟨z, rfl, by omega, by omega, rfl⟩) (eb_one (tk _ _ _ _ hbM (by omega) (by omega) rfl _)))) fun vt H4 f4 B4 ⟨p, xs, e, hs, hx⟩ => ?_
      obtain ⟨y1, y2, rfl, ⟨a, ha, hy1⟩, ⟨sh, hsh, hy2⟩⟩ := allT2 hx
      subst e
      cases dp_int hy1
      cases dp_int hy2
      obtain ⟨a, rfl⟩ : ∃ y : Nat, a = (y : Int) := ⟨a.toNat, by omega⟩
      obtain ⟨sh, rfl⟩ : ∃ y : Nat, sh = (y : Int) := ⟨sh.toNat, by omega⟩
      have ha' : a < cs.length := by omega
      refine g_tup2 (K := K) (a := .int a) (b := .int sh) (.tup hs (.cons (.int _) (.cons (.int _) .nil))) fun y z hy hz => ?_
      cases dp_int hy
      cases dp_int hz
      dsimp only
      have fr := ((f1.comp f2).comp f3).comp f4
      refine sd_ret (K := K) (d := .list (((List.range n).map fun k => SX.S (nameL cs a sh k)).map .str)) fr.ok ((ed_lcR1 (n := n) (ea_one (ed_varI rfl)) (by omega) (fun k => .str (SX.S (nameL cs a sh k))) (fun _ => rfl) fun M' H' k ex hM' hk => ?_).to (by rw [List.map_map]; rfl)) fun v H5 e5 h => hq v H5 (fr.gex e5) (B4.up e5) ⟨_, ⟨?_, ?_, ?_⟩, h⟩
      · refine (ed_addS (K := K) ?_ (ed_addS ?_ (ed_slS (x := SX.S cs) ?_ (ed_var rfl (.str _)) (fun _ _ => eo_none) (fun H6 e6 => eo_some (K := K) (hM'.ex e6) (ed_varI rfl))) (ed_ixS (s := abc) (k := 97 + (sh + 3 * k) % 26) (i := ((sh : Int) + 3 * k) % 26) (by rw [abc_len, sizeLine_eq]; decide) ?_ (ed_var rfl (.str _)) (ed_mod (by omega) (ed_add (ed_varI rfl) (ed_mul (cmulL (by omega)) ed_int (ed_varI rfl))) ed_int))) (ed_slS (x := SX.S cs) ?_ (ed_var rfl (.str _)) (fun H6 e6 => eo_some (K := K) (hM'.ex e6) (ed_add (ed_varI rfl) ed_int)) (fun _ _ => eo_none))).to ?_
        · have := (nameL_len (s := sh) (k := k) ha')
          unfold nameL at this
          simp only [List.length_append, List.length_cons, List.length_nil] at this
          rw [SX.slice_to (by omega), SX.slice_from (by omega), show (⟨#[97 + (sh + 3 * k) % 26]⟩ : Str) = SX.S [97 + (sh + 3 * k) % 26] from rfl, SX.S_cat, SX.S_len, SX.S_len]
          simp
          omega
        · rw [SX.slice_to (by omega), SX.S_len]
          show _ + 1 ≤ 1000
          simp
          omega
        · rw [SX.S_len]; omega
        · have := abc_at (i := ((sh : Int) + 3 * k) % 26) (by omega) (by omega)
          rw [this]
          congr 1 <;> omega
        · rw [SX.S_len]; omega
        · congr 1
          rw [SX.slice_to (by omega), SX.slice_from (by omega), show (⟨#[97 + (sh + 3 * k) % 26]⟩ : Str) = SX.S [97 + (sh + 3 * k) % 26] from rfl, SX.S_cat, SX.S_cat, nameL]
          try congr 3
      · simp
      · exact nodup_mapOn (fun x hx y hy e => nameL_inj ha' (by simp at hx; omega) (by simp at hy; omega) (SX.S_inj e)) List.nodup_range
      · intro s hs
        obtain ⟨k, hk, rfl⟩ := List.mem_map.mp hs
        have hl := nameL_len (s := sh) (k := k) ha'
        exact ⟨by rw [SX.S_len]; omega, by rw [SX.S_len]; omega, fun c hc => nameL_rng hcr c hc⟩)
end
end WL
end
section
set_option Elab.async false
set_option linter.all false
set_option maxRecDepth 100000
set_option maxHeartbeats 4000000
/-! D23: _law_windows. -/
namespace WL
open PySem PySem.Spec PyProof.Rows L2 Evl HeadW
section
variable {K : PySem.W.Frag} {b c : Addr} {M : List Addr} {σ : L2.St} {H H' : Hp} {ta tb te : TE} {T T0 U : Ty} {D : Ends}
theorem s_forB {g : TG} {tb : TS} (hM : MOk M H) (B : BagOk H b c) (h : EB b c M te σ H T) (k : ∀ v H1, Fr [b] M H M H1 → BagOk H1 b c → T.p v (hide M H1) → tFor (iList K (tv v)) g tb D σ H1) : tFor (iList K te) g tb D σ H := h H (Fr.refl1 hM) B _ k
theorem s_forB1 {g : TG} {tb : TS} (hM : MOk M H) (B : BagOk H b c) (h : EB b c M te σ H T) (k : ∀ v H1, Fr [b] M H M H1 → BagOk H1 b c → T.p v (hide M H1) → tFor (iRng1 (tCons (tv v) tNil)) g tb D σ H1) : tFor (iRng1 (tCons te tNil)) g tb D σ H := h H (Fr.refl1 hM) B _ k
theorem allT_ex {α β : Type} {P : β → Prop} {f : β → PyData} {H : Hp} : ∀ {l : List α} {xs : List V}, AllT H xs (l.map fun _ => tyEx P (fun x => dat K (f x))) → ∃ ys : List β, ys.length = l.length ∧ (∀ y ∈ ys, P y) ∧ DpAll K H xs (ys.map f)
  | [], _, h => by
    cases h
    exact ⟨[], rfl, by simp, .nil⟩
  | _ :: l, _, h => by
    cases h with
    | cons a h2 =>
      obtain ⟨y, hy, hd⟩ := a
      obtain ⟨ys, h3, h4, h5⟩ := allT_ex h2
      refine ⟨y :: ys, by simp [h3], fun a ha => ?_, .cons hd h5⟩
      rcases List.mem_cons.mp ha with e | e
      · rw [e]; exact hy
      · exact h4 a e
theorem s_parL {i j : Nat} {d : PyData} (hM : MOk M H) (hj : ∀ p, H p = none → ED K (p :: M) te σ (upd H p (.lst [])) d) (k : ∀ p v H1, H p = none → Ex (upd H p (.lst [])) H1 → Dp K (hide (p :: M) H1) v d → D.nx ((σ.set i (some (.ref p))).set j (some v)) H1) : tPar i j (tCons (tLst tNil) (tCons te tNil)) D σ H :=
  ⟨Nat.zero_le _, fun p hp => hj p hp ((hM.ex (Ex.new hp)).cons upd_same) _ (Ex.refl _) _ fun v H1 e hv => ⟨_, _, rfl, k p v H1 hp e hv⟩⟩
end
section
variable {w : World} {K : PySem.W.Frag} {mg : Str → Option Value} {base : Heap}
def MvOk (st : Nat) (o : Option Nat) : Prop := ∀ k, o = some k → k < st
def WinsOk (m n st most : Nat) (ws : List W) : Prop := ws.length ≤ most ∧ (∀ u ∈ ws, WM.WinOk m n st u ∧ NameOk u.name) ∧ (ws.map fun u => u.name).Nodup
abbrev N_law_windows : List Str := ["_law_bag_here", "_law_modulus", "_law_wheels", "_law_stops", "_law_most", "_law_found", "_law_panes", "_law_name", "_law_source", "_law_target", "_law_factor", "_law_pane", "_law_moves", "_law_k"]
theorem sc_law_windows : FnScope N_law_windows ["_law_bag_here", "_law_modulus", "_law_wheels", "_law_stops", "_law_most"] d_law_windows.scope := ⟨rfl, rfl, rfl, by decide +kernel, rfl, by decide +kernel, by decide +kernel⟩
theorem bi_law_windows (kV doc pm : Value) (an : Option Addr) (cdv ct : Value) (us : List Value) (hl : us.length = 5) : bindArgs (PySem.W.fnOf d_law_windows.name d_law_windows.qual d_law_windows.params d_law_windows.body d_law_windows.scope .none kV doc pm an cdv ct) ⟨us, []⟩ = pure ((["_law_bag_here", "_law_modulus", "_law_wheels", "_law_stops", "_law_most"] : List Str).zip us) := by
  match us, hl with
  | [_, _, _, _, _], _ => rfl

def R_law_windows (K : PySem.W.Frag) (Ts : List Ty) (T : Ty) : Prop := ∃ m n st most : Nat, Ts = [tI K m, tI K n, tI K st, tI K most] ∧ 2 ≤ m ∧ m ≤ 60 ∧ 1 ≤ n ∧ n ≤ 6 ∧ 1 ≤ st ∧ st ≤ 100 ∧ most ≤ 20 ∧ T = tyEx (WinsOk m n st most) (fun ws => dat K (dWins ws))
theorem cal_law_windows (G : Glb w K mg base) : C8.Cal PP w K mg base 3 "_law_windows" (SpB (R_law_windows K)) [] :=
  cal_mk G 52 (d := d_law_windows) rfl rfl G.g_law_windows rfl sc_law_windows (spB_len fun Ts T ⟨_, _, _, _, h, _⟩ => by rw [h]; rfl) bi_law_windows (fun f cdv A outer s H vs Q E hr hsp => by
    obtain ⟨M, b, c, ws, Ts, T, hM, hbM, hB, rfl, hv, ⟨m, n, st, most, rfl, hm, hm2, hn, hn2, hst, hst2, hmo, rfl⟩, hq⟩ := hsp
    obtain ⟨v1, v2, v3, v4, rfl, h1, h2, h3, h4⟩ := allT4 hv
    cases dp_int h1
    cases dp_int h2
    cases dp_int h3
    cases dp_int h4
    refine ⟨_, (pss_cons (ps_par (i := 5) (j := 6) (by rfl) sc_law_windows.nd rfl rfl (by decide) rfl rfl (pa_cons (pe_lst pa_nil) (pa_cons (C8.pe_c (cal_law_divisors G) hr (by decide) (by rfl) (pa_cons (pv 1) pa_nil)) pa_nil)) (by rfl))
      (pss_cons (ps_for PassesOwn.never rfl (pi_list (C8.pe_c (cal_law_names G) hr (by decide) (by rfl) (pa_cons (pv 0) (pa_cons (pe_op op_mul (C8.pe_c (cal_law_take G) hr (by decide) (by rfl) (pa_cons (pv 0) (pa_cons (pe_op op_add (pv 4) pe_int) pa_nil))) (pe_callTy (T := "int") call_int1 (by rfl) G.f_int (by decide +kernel) (pa_cons (pe_cmpR op_gt (pv 2) pe_int (nomark _)) pa_nil))) pa_nil)))) (pg_name (i := 7) sc_law_windows.nd rfl (by first | exact Or.inl rfl | exact Or.inr rfl)) (pss_cons (ps_set (i := 8) sc_law_windows.nd rfl (by first | exact Or.inl rfl | exact Or.inr rfl) (C8.pe_c (cal_law_take G) hr (by decide) (by rfl) (pa_cons (pv 0) (pa_cons (pv 2) pa_nil))))
      (pss_cons (ps_set (i := 9) sc_law_windows.nd rfl (by first | exact Or.inl rfl | exact Or.inr rfl) (pe_op op_mod (pe_op op_add (pe_op op_add (pv 8) pe_int) (C8.pe_c (cal_law_take G) hr (by decide) (by rfl) (pa_cons (pv 0) (pa_cons (pe_op op_sub (pv 2) pe_int) pa_nil)))) (pv 2)))
      (pss_cons (ps_set (i := 10) sc_law_windows.nd rfl (by first | exact Or.inl rfl | exact Or.inr rfl) (pe_ix ix_list (pe_lst (pa_cons pe_int (pa_cons pe_int (pa_cons (pe_op op_sub (pv 1) pe_int) (pa_cons (C8.pe_c (cal_law_take G) hr (by decide) (by rfl) (pa_cons (pv 0) (pa_cons (pv 1) pa_nil))) (pa_cons (C8.pe_c (cal_law_take G) hr (by decide) (by rfl) (pa_cons (pv 0) (pa_cons (pv 1) pa_nil))) pa_nil)))))) (C8.pe_c (cal_law_take G) hr (by decide) (by rfl) (pa_cons (pv 0) (pa_cons pe_int pa_nil))) (fun _ _ => rfl)))
      (pss_cons (ps_set (i := 11) sc_law_windows.nd rfl (by first | exact Or.inl rfl | exact Or.inr rfl) (pe_ix ix_list (pe_lst (pa_cons (pv 1) (pa_cons (pe_ix ix_list (pv 6) (C8.pe_c (cal_law_take G) hr (by decide) (by rfl) (pa_cons (pv 0) (pa_cons (pe_callB (id := "len") call_len (by rfl) G.f_len (by decide +kernel) (pa_cons (pv 6) pa_nil)) pa_nil))) (fun _ _ => rfl)) pa_nil))) (C8.pe_c (cal_law_take G) hr (by decide) (by rfl) (pa_cons (pv 0) (pa_cons pe_int pa_nil))) (fun _ _ => rfl)))
      (pss_cons (ps_setLc (i := 12) (own := [("_law_k", 13)]) (g := (gName 13)) (tt := tYes) rfl sc_law_windows.nd rfl rfl (sw_true rfl rfl rfl (by decide +kernel)) (pi_range1 (by rfl) G.f_range (pa_cons (pv 3) pa_nil)) (blkOk_by (N := N_law_windows) (sc := d_law_windows.scope) (by decide +kernel)) (fun _ _ _ _ _ => (pg_name (i := 13) sc_law_windows.nd rfl (by first | exact Or.inl rfl | exact Or.inr rfl))) (fun _ _ _ _ _ => pts_nil) (fun _ _ _ _ _ => (pe_ix (ix_listK (K := K) rfl) (pe_lst (pa_cons pe_non (pa_cons (C8.pe_c (cal_law_take G) hr (by decide) (by rfl) (pa_cons (pv 0) (pa_cons (pv 3) pa_nil))) (pa_cons (C8.pe_c (cal_law_take G) hr (by decide) (by rfl) (pa_cons (pv 0) (pa_cons (pv 3) pa_nil))) (pa_cons (pv 13) pa_nil))))) (C8.pe_c (cal_law_take G) hr (by decide) (by rfl) (pa_cons (pv 0) (pa_cons pe_int pa_nil))) (fun _ _ => rfl))))
      (pss_one (ps_expr (pe_bm PySem.F.plainAttrs_list PySem.F.slot_list_append PySem.F.type_list_append mt_append (pv 5) (pa_cons (pe_tup (pa_cons (pv 7) (pa_cons (pv 8) (pa_cons (pv 9) (pa_cons (pv 10) (pa_cons (pv 11) (pa_cons (pe_callTy (T := "tuple") call_tuple_of (by rfl) G.f_tuple (by decide +kernel) (pa_cons (pv 12) pa_nil)) pa_nil))))))) pa_nil))))))))))
      (pss_one (ps_ret (pv 5))))), ?_⟩
    have tk : ∀ {M : List Addr} {σ : L2.St} {H : Hp} {te : TE} (m : Int), b ∈ M → 0 < m → m < 1000000 → σ[0]? = some (some (.ref b)) → EB b c M te σ H (tI K m) → ∀ E, EB b c M (tCall (SpB (R_law_take K)) [] E (tCons (tVar 0) (tCons te tNil))) σ H (tIn K 0 m) := fun m hb h1 h2 h0 h E => eb_call (R := R_law_take K) hb h0 (eb_one h) ⟨m, rfl, h1, h2, rfl⟩
    refine s_parL (K := K) (d := .list ((WM.divs m).map .int)) hM (fun p hp => ed_call (R := R_law_divisors K) (ega_d (ed_varI rfl) ega_nil) ⟨m, rfl, by omega, rfl⟩) fun p v6 H1 hp e1 h6 => ?_
    dsimp only
    have f1 : Fr [b] M H (p :: M) H1 := ((Fr.refl1 hM).new hp).gex e1
    have B1 : BagOk H1 b c := (hB.up (Ex.new hp)).up e1
    have hbM' : b ∈ p :: M := by simp [hbM]
    have hpb := hB.fresh hp
    have p1 : H1 p = some (.lst []) := e1 p _ upd_same
    refine s_forB f1.ok B1 (T := tyEx (fun ns : List Str => (0 < ns.length → 1 < n) ∧ ns.length ≤ most ∧ ns.Nodup ∧ ∀ s ∈ ns, NameOk s) (fun ns => dat K (.list (ns.map .str)))) ?_ fun vn H2 f2 B2 ⟨ns, ⟨hn1, hnl, hnd, hnk⟩, hvn⟩ => ?_
    · refine eb_callX (R := R_law_names K) hbM' rfl (eb_one (T := tyEx (fun k : Nat => k ≤ most ∧ (0 < k → 1 < n)) (fun k => tI K k)) ?_) ?_
      · refine eb_op (T1 := tIn K 0 ((most : Int) + 1)) (T2 := tI K (if decide ((n : Int) > 1) = true then 1 else 0)) (tk _ hbM' (by omega) (by omega) rfl (eb_d fun H2 f2 => ed_add (ed_varI rfl) ed_int) _) (eb_d fun H2 f2 => ed_intB (ed_cmp (ed_varI rfl) ed_int)) fun x y H2 f2 ⟨i, hi, hx⟩ hy => (ed_mul (K := K) (cmulL (by omega)) (ed_tv hx) (ed_tv hy)).eg.wk fun v H' h => ?_
        by_cases hn1 : n > 1
        · rw [if_pos (by simp; omega)] at h
          exact ⟨i.toNat, ⟨by omega, fun _ => hn1⟩, by show (tI K ((i.toNat : Nat) : Int)).p v H'; rw [show ((i.toNat : Nat) : Int) = i * 1 by omega]; exact h⟩
        · rw [if_neg (by simp; omega)] at h
          exact ⟨0, ⟨by omega, fun z => absurd z (by omega)⟩, by show (tI K ((0 : Nat) : Int)).p v H'; rw [show ((0 : Nat) : Int) = i * 0 by omega]; exact h⟩
      · intro vs H' h
        obtain ⟨v, rfl, k, ⟨hk1, hk2⟩, hd⟩ := allT1 h
        exact ⟨_, _, .cons hd .nil, ⟨k, rfl, by omega, rfl⟩, fun v H'' ⟨ns, ⟨a1, a2, a3⟩, h⟩ => ⟨ns, ⟨fun z => hk2 (by omega), by omega, a2, a3⟩, h⟩⟩
    · have fr2 := f1.trans f2 (fun _ h => .inl h)
      have p2 : H2 p = some (.lst []) := f2.keep p _ (by simp [hpb.1]) p1
      have h6' := Dp.mono h6 f2.vis
      refine s_for f2.ok (ei_ld (K := K) (src := ns) (f := .str) (ed_tv hvn)) (p :: M) (fun H3 i σ' H' => Fr [p, b] (p :: M) H3 (p :: M) H' ∧ BagOk H' b c ∧ ∃ (us : List W) (xs : List V) (y7 y8 y9 y10 y11 y12 y13 : Option V), σ' = [some (.ref b), some (.int m), some (.int n), some (.int st), some (.int most), some (.ref p), some v6, y7, y8, y9, y10, y11, y12, y13] ∧ H' p = some (.lst xs) ∧ DpAll K (hide (p :: M) H') xs (us.map dWin) ∧ us.map (fun u => u.name) = ns.take i ∧ ∀ u ∈ us, WM.WinOk m n st u) (fun H3 i σ' H' e P => ⟨P.1.vis, P.1.ok⟩) (fun H3 e => ⟨Fr.refl1 (f2.ok.ex e), B2.up e, [], [], none, none, none, none, none, none, none, rfl, e p _ p2, .nil, rfl, by simp⟩) ?_ ?_
      · rintro H3 i nm vx σ' H' H4 e3 hi ⟨fr, B', us, xs, y7, y8, y9, y10, y11, y12, y13, rfl, hpx, hxs, hnm, hus⟩ e4 hx
        cases dp_str hx
        dsimp only
        have hn3 : 1 < n := hn1 (by obtain ⟨h, _⟩ := List.getElem?_eq_some_iff.mp hi; omega)
        have fr4 := fr.gex e4
        have h64 := (h6'.mono (hide_ex e3)).mono fr4.vis
        refine sb_set fr4.ok (B'.up e4) (tk _ hbM' (by omega) (by omega) rfl (eb_varI rfl) _) fun v8 H5 f5 B5 ⟨src, hsrc, hv8⟩ => ?_
        cases dp_int hv8
        dsimp only
        refine sb_set f5.ok B5 (T := tyEx (fun t : Int => (0 ≤ t ∧ t < n) ∧ t ≠ src) (tI K)) ?_ fun v9 H6 f6 B6 ⟨tgt, ⟨htgt, hne⟩, hv9⟩ => ?_
        · refine eb_op (T1 := tIn K (src + 1) (src + n)) (T2 := tI K n) (eb_op (T1 := tI K (src + 1)) (T2 := tIn K 0 ((n : Int) - 1)) (eb_d fun H6 f6 => ed_add (ed_varI rfl) ed_int) (tk _ hbM' (by omega) (by omega) rfl (eb_d fun H6 f6 => ed_sub (ed_varI rfl) ed_int) _) fun x y H6 f6 hx ⟨i, hi, hy⟩ => (ed_add (K := K) (ed_tv hx) (ed_tv hy)).eg.wk fun v H' h => ⟨_, ⟨by omega, by omega⟩, h⟩) (eb_varI rfl) fun x y H6 f6 ⟨i, hi, hx⟩ hy => (ed_mod (K := K) (by omega) (ed_tv hx) (ed_tv hy)).eg.wk fun v H' h => ⟨_, ⟨⟨Int.emod_nonneg _ (by omega), Int.emod_lt_of_pos _ (by omega)⟩, ?_⟩, h⟩
          have h1 := Int.emod_add_mul_ediv i n
          intro z
          rw [z] at h1
          have : 0 < (n : Int) * (i / n) := by omega
          have : (n : Int) * (i / n) < n := by omega
          have h3 : 0 < i / (n : Int) := by
            rcases Int.lt_or_le 0 (i / (n : Int)) with h | h
            · exact h
            · have := Int.mul_le_mul_of_nonneg_left h (show (0 : Int) ≤ n by omega)
              rw [Int.mul_zero] at this
              omega
          have h4 : (n : Int) * 1 ≤ n * (i / n) := Int.mul_le_mul_of_nonneg_left (by omega) (by omega)
          omega
        cases dp_int hv9
        dsimp only
        refine sb_set f6.ok B6 (T := tIn K 0 m) ?_ fun v10 H7 f7 B7 ⟨fac, hfac, hv10⟩ => ?_
        · refine eb_ixAll (n := 5) (Ts := [tI K 0, tI K 1, tI K ((m : Int) - 1), tIn K 0 m, tIn K 0 m]) (eb_lst (by simp) (eba_cons eb_int (eba_cons eb_int (eba_cons (eb_d fun H7 f7 => ed_sub (ed_varI rfl) ed_int) (eba_cons (tk _ hbM' (by omega) (by omega) rfl (eb_varI rfl) _) (eb_one (tk _ hbM' (by omega) (by omega) rfl (eb_varI rfl) _))))))) (tk _ hbM' (by omega) (by omega) rfl eb_int _) (by simp) ?_
          intro T hT v H' h
          simp only [List.mem_cons, List.not_mem_nil, or_false] at hT
          rcases hT with e | e | e | e | e <;> subst e
          · exact tI_in (by omega) (by omega) v H' h
          · exact tI_in (by omega) (by omega) v H' h
          · exact tI_in (by omega) (by omega) v H' h
          · exact h
          · exact h
        cases dp_int hv10
        dsimp only
        refine sb_set f7.ok B7 (T := tyEx (fun d : Int => 0 < d ∧ d ≤ m ∧ d ∣ m) (tI K)) ?_ fun v11 H8 f8 B8 ⟨pane, hpane, hv11⟩ => ?_
        · refine eb_ixAll (n := 2) (Ts := [tI K m, tyEx (fun d : Int => d ∈ WM.divs m) (tI K)]) (eb_lst (by simp) (eba_cons (eb_varI rfl) (eb_one (eb_ixAll (K := K) (n := (WM.divs m).length) (Ts := ((WM.divs m).map .int).map (dat K)) (eb_var rfl (dp_tyL (Dp.mono h64 (f5.vis.trans (f6.vis.trans f7.vis))))) (tk _ hbM' (by have := WM.divs_ne (n := m) (by omega); omega) (by have := WM.divs_len m; omega) rfl (eb_d fun H8 f8 => (ed_len (K := K) (ds := (WM.divs m).map .int) (ed_var rfl (Dp.mono h64 (f5.vis.trans (f6.vis.trans (f7.vis.trans f8.vis)))))).to (by rw [List.length_map])) _) (by simp) ?_)))) (tk _ hbM' (by omega) (by omega) rfl eb_int _) (by simp) ?_
          · intro T hT v H' h
            rw [List.map_map] at hT
            obtain ⟨d, hd, rfl⟩ := List.mem_map.mp hT
            exact ⟨d, hd, h⟩
          · intro T hT v H' h
            simp only [List.mem_cons, List.not_mem_nil, or_false] at hT
            rcases hT with e | e <;> subst e
            · exact ⟨m, ⟨by omega, by omega, Int.dvd_refl _⟩, h⟩
            · obtain ⟨d, hd, h⟩ := h
              have := WM.divs_ok hd
              exact ⟨d, ⟨by omega, this.2.1, this.2.2⟩, h⟩
        cases dp_int hv11
        dsimp only
        refine sb_set f8.ok B8 (T := tyEx (fun mv : List (Option Nat) => mv.length = st ∧ ∀ o ∈ mv, MvOk st o) (fun mv => dat K (.list (mv.map dMv)))) ?_ fun v12 H9 f9 B9 ⟨mv, hmv, hv12⟩ => ?_
        · refine (eb_lc (K := K) (src := List.range st) (f := fun _ => tyEx (MvOk st) (fun o => dat K (dMv o))) hbM' (fun H9 f9 => ei_r1 (K := K) (by omega) (ea_one (ed_varI rfl))) (by simp; omega) (fun _ => rfl) fun M' H' x k ex hb' hk hx => ?_).wk ?_
          · cases dp_int hx
            refine eb_ixAll (n := 4) (Ts := [tN K, tIn K 0 st, tIn K 0 st, tI K k]) (eb_lst (by simp) (eba_cons (eb_d fun H9 f9 => ed_non) (eba_cons (tk _ hb' (by omega) (by omega) rfl (eb_varI rfl) _) (eba_cons (tk _ hb' (by omega) (by omega) rfl (eb_varI rfl) _) (eb_one (eb_varI rfl)))))) (tk _ hb' (by omega) (by omega) rfl eb_int _) (by simp) ?_
            have hkk : k < st := by simpa using hk
            intro T hT v H' h
            simp only [List.mem_cons, List.not_mem_nil, or_false] at hT
            rcases hT with e | e | e | e <;> subst e
            · exact ⟨none, fun _ z => (by cases z), h⟩
            · obtain ⟨i, hi, h⟩ := h
              exact ⟨some i.toNat, fun k z => (by cases z; omega), (by show Dp K H' v (.int ((i.toNat : Nat) : Int)); rw [Int.toNat_of_nonneg hi.1]; exact h)⟩
            · obtain ⟨i, hi, h⟩ := h
              exact ⟨some i.toNat, fun k z => (by cases z; omega), (by show Dp K H' v (.int ((i.toNat : Nat) : Int)); rw [Int.toNat_of_nonneg hi.1]; exact h)⟩
            · exact ⟨some k, fun k' z => (by cases z; exact hkk), h⟩
          · rintro v H' ⟨a, xs, e, hs, hx⟩
            obtain ⟨ys, g1, g2, g3⟩ := allT_ex hx
            exact ⟨ys, ⟨by rw [g1]; simp, g2⟩, by rw [e]; exact .lst hs g3⟩
        dsimp only
        obtain ⟨src, rfl⟩ : ∃ y : Nat, src = (y : Int) := ⟨src.toNat, by omega⟩
        obtain ⟨tgt, rfl⟩ : ∃ y : Nat, tgt = (y : Int) := ⟨tgt.toNat, by omega⟩
        have f49 := (((f5.comp f6).comp f7).comp f8).comp f9
        have fr9 := fr4.trans f49 fun a ha => .inl (by simp at ha; simp [ha])
        have p9 : H9 p = some (.lst xs) := f49.keep p _ (by simp [hpb.1]) (e4 p _ hpx)
        have hlen := dpAll_len hxs
        have hnl2 := congrArg List.length hnm
        rw [List.length_map] at hlen hnl2
        rw [List.length_take] at hnl2
        refine s_append (T := dat K (dWin ⟨nm, src, tgt, fac, pane, mv⟩)) fr9.ok p9 rfl (ED.eg (ed_tup (K := K) (by simp) (ea_cons (ed_var rfl (.str _)) (ea_cons (ed_varI rfl) (ea_cons (ed_varI rfl) (ea_cons (ed_varI rfl) (ea_cons (ed_varI rfl) (ea_one (ed_tupleOf (ed_var rfl hv12)))))))))) (by omega) fun vw H10 e10 hvw => ?_
        dsimp only
        have f10 := (fr9.gex e10).upd (a := p) (o := .lst (xs ++ [vw])) (by simp) (.inl (by simp))
        refine ⟨f10, (B9.up e10).upd hpb.1 hpb.2, us ++ [⟨nm, src, tgt, fac, pane, mv⟩], xs ++ [vw], _, _, _, _, _, _, _, rfl, upd_same, ?_, ?_, ?_⟩
        · rw [hide_upd (by simp), List.map_append]
          exact dpAll_app (hxs.mono (((hide_ex e4).trans f49.vis).trans (hide_ex e10))) (.cons hvw .nil)
        · rw [List.map_append, hnm, List.take_add_one, hi]
          rfl
        · intro u hu
          rcases List.mem_append.mp hu with z | z
          · exact hus u z
          · rw [List.mem_singleton.mp z]
            exact ⟨by show src < n; omega, by show tgt < n; omega, fun z => hne (by exact congrArg Int.ofNat z.symm), hfac, ⟨hpane.1, hpane.2.1⟩, hpane.2.2, hmv.1, fun k hk => hmv.2 _ hk k rfl⟩
      · rintro H3 σ' H' e3 ⟨fr, B', us, xs, y7, y8, y9, y10, y11, y12, y13, rfl, hpx, hxs, hnm, hus⟩
        dsimp only
        rw [List.take_length] at hnm
        have hpM : p ∉ M := hM.new hp
        have fz : Fr [b] M H (p :: M) H' := (fr2.gex e3).trans fr fun a ha => by
          simp only [List.mem_cons, List.not_mem_nil, or_false] at ha
          rcases ha with z | z
          · exact .inr (z ▸ hp)
          · exact .inl (by simp [z])
        have fb := fz.back fun a ha => by simp [ha]
        refine sd_ret (K := K) (d := dWins us) fb.ok (ed_var rfl (.lst (sq_of (by rw [hide_out hpM]; exact hpx)) (hxs.mono (hide_less fun a ha => by simp [ha])))) fun v H5 e5 h => hq v H5 (fb.gex e5) (B'.up e5) ⟨us, ⟨?_, ?_, ?_⟩, h⟩
        · have := congrArg List.length hnm
          rw [List.length_map] at this
          omega
        · exact fun u hu => ⟨hus u hu, hnk _ (hnm ▸ List.mem_map.mpr ⟨u, hu, rfl⟩)⟩
        · rw [hnm]
          exact hnd)
end
end WL
end
section
set_option Elab.async false
set_option linter.all false
set_option maxRecDepth 100000
set_option maxHeartbeats 4000000
/-! D24: _law_cabinet, _law_great_cabinet. -/
namespace WL
open PySem PySem.Spec PyProof.Rows L2 Evl HeadW
structure Cab where
  m : Nat
  n : Nat
  st : Nat
  ws : List W
abbrev dCab (q : Cab) : PyData := .tuple [.int q.m, .int q.n, .int q.st, dWins q.ws]
section
variable {w : World} {K : PySem.W.Frag} {mg : Str → Option Value} {base : Heap}
abbrev N_law_cabinet : List Str := ["_law_bag_here", "_law_most", "_law_modulus", "_law_wheels", "_law_stops"]
theorem sc_law_cabinet : FnScope N_law_cabinet ["_law_bag_here", "_law_most"] d_law_cabinet.scope := ⟨rfl, rfl, rfl, by decide +kernel, rfl, by decide +kernel, by decide +kernel⟩
theorem bi_law_cabinet (kV doc pm : Value) (an : Option Addr) (cdv ct : Value) (us : List Value) (hl : us.length = 2) : bindArgs (PySem.W.fnOf d_law_cabinet.name d_law_cabinet.qual d_law_cabinet.params d_law_cabinet.body d_law_cabinet.scope .none kV doc pm an cdv ct) ⟨us, []⟩ = pure ((["_law_bag_here", "_law_most"] : List Str).zip us) := by
  match us, hl with
  | [_, _], _ => rfl

def R_law_cabinet (K : PySem.W.Frag) (Ts : List Ty) (T : Ty) : Prop := ∃ most : Nat, Ts = [tI K most] ∧ most ≤ 20 ∧ T = tyEx (fun q : Cab => SmallOk (q.m, q.n) ∧ 1 ≤ q.st ∧ q.st ≤ 4 ∧ WinsOk q.m q.n q.st most q.ws) (fun q => dat K (dCab q))
theorem cal_law_cabinet (G : Glb w K mg base) : C8.Cal PP w K mg base 4 "_law_cabinet" (SpB (R_law_cabinet K)) [] :=
  cal_mk G 59 (d := d_law_cabinet) rfl rfl G.g_law_cabinet rfl sc_law_cabinet (spB_len fun Ts T ⟨_, h, _⟩ => by rw [h]; rfl) bi_law_cabinet (fun f cdv A outer s H vs Q E hr hsp => by
    obtain ⟨M, b, c, ws, Ts, T, hM, hbM, hB, rfl, hv, ⟨most, rfl, hmo, rfl⟩, hq⟩ := hsp
    obtain ⟨v1, rfl, h1⟩ := allT1 hv
    cases dp_int h1
    refine ⟨_, (pss_cons (ps_asg (C8.pe_c (cal_law_small G) hr (by decide) (by rfl) (pa_cons (pv 0) pa_nil)) (pg_tup rfl (pgs_cons (pg_name (i := 2) sc_law_cabinet.nd rfl (by first | exact Or.inl rfl | exact Or.inr rfl)) (pgs_cons (pg_name (i := 3) sc_law_cabinet.nd rfl (by first | exact Or.inl rfl | exact Or.inr rfl)) pgs_nil))))
      (pss_cons (ps_set (i := 4) sc_law_cabinet.nd rfl (by first | exact Or.inl rfl | exact Or.inr rfl) (pe_op op_add pe_int (C8.pe_c (cal_law_take G) hr (by decide) (by rfl) (pa_cons (pv 0) (pa_cons pe_int pa_nil)))))
      (pss_one (ps_ret (pe_tup (pa_cons (pv 2) (pa_cons (pv 3) (pa_cons (pv 4) (pa_cons (C8.pe_c (cal_law_windows G) hr (by decide) (by rfl) (pa_cons (pv 0) (pa_cons (pv 2) (pa_cons (pv 3) (pa_cons (pv 4) (pa_cons (pv 1) pa_nil)))))) pa_nil))))))))), ?_⟩
    refine sb_bind hM hB (eb_call (T := tyEx SmallOk (fun p => dat K (dNP p))) (R := R_law_small K) hbM rfl eba_nil ⟨rfl, rfl⟩) fun vp H1 f1 B1 ⟨⟨m, n⟩, hs, hvp⟩ => ?_
    refine g_tup2 (K := K) hvp fun y z hy hz => ?_
    cases dp_int hy
    cases dp_int hz
    dsimp only
    refine sb_set f1.ok B1 ((eb_add (K := K) (lo := 1) (hi := 2) (eb_int.wk (tI_in (by omega) (by omega))) (eb_call (T := tIn K 0 4) (R := R_law_take K) hbM rfl (eb_one eb_int) ⟨4, rfl, by omega, by omega, rfl⟩)).wk (tIn_wk (by omega) (by omega)) (U := tIn K 1 5)) fun v2 H2 f2 B2 ⟨st, hst, hv2⟩ => ?_
    cases dp_int hv2
    dsimp only
    obtain ⟨st, rfl⟩ : ∃ y : Nat, st = (y : Int) := ⟨st.toNat, by omega⟩
    have hs2 := hs
    obtain ⟨g1, g2, g3, g4, g5⟩ := hs2
    refine sb_ret f2.ok B2 (eb_tup (K := K) (Ts := [tI K m, tI K n, tI K st, tyEx (WinsOk m n st most) (fun ws => dat K (dWins ws))]) (by simp) (eba_cons (eb_varI rfl) (eba_cons (eb_varI rfl) (eba_cons (eb_varI rfl) (eb_one (eb_call (R := R_law_windows K) hbM rfl (eba_cons (eb_varI rfl) (eba_cons (eb_varI rfl) (eba_cons (eb_varI rfl) (eb_one (eb_varI rfl))))) ⟨m, n, st, most, rfl, g1, g2, g3, g4, by omega, by omega, hmo, rfl⟩)))))) fun v H3 f3 B3 ⟨a, xs, e, hsq, hx⟩ => hq v H3 ((f1.comp f2).comp f3) B3 ?_
    obtain ⟨x1, x2, x3, x4, rfl, k1, k2, k3, ws, hws, k4⟩ := allT4 hx
    exact ⟨⟨m, n, st, ws⟩, ⟨hs, by show 1 ≤ st; omega, by show st ≤ 4; omega, hws⟩, by rw [e]; exact .tup hsq (.cons k1 (.cons k2 (.cons k3 (.cons k4 .nil))))⟩)
abbrev N_law_great_cabinet : List Str := ["_law_bag_here", "_law_most", "_law_modulus", "_law_wheels", "_law_stops"]
theorem sc_law_great_cabinet : FnScope N_law_great_cabinet ["_law_bag_here", "_law_most"] d_law_great_cabinet.scope := ⟨rfl, rfl, rfl, by decide +kernel, rfl, by decide +kernel, by decide +kernel⟩
theorem bi_law_great_cabinet (kV doc pm : Value) (an : Option Addr) (cdv ct : Value) (us : List Value) (hl : us.length = 2) : bindArgs (PySem.W.fnOf d_law_great_cabinet.name d_law_great_cabinet.qual d_law_great_cabinet.params d_law_great_cabinet.body d_law_great_cabinet.scope .none kV doc pm an cdv ct) ⟨us, []⟩ = pure ((["_law_bag_here", "_law_most"] : List Str).zip us) := by
  match us, hl with
  | [_, _], _ => rfl

def R_law_great_cabinet (K : PySem.W.Frag) (Ts : List Ty) (T : Ty) : Prop := ∃ most : Nat, Ts = [tI K most] ∧ most ≤ 20 ∧ T = tyEx (fun q : Cab => GreatOk (q.m, q.n) ∧ 1 ≤ q.st ∧ q.st ≤ 4 ∧ WinsOk q.m q.n q.st most q.ws) (fun q => dat K (dCab q))
theorem cal_law_great_cabinet (G : Glb w K mg base) : C8.Cal PP w K mg base 4 "_law_great_cabinet" (SpB (R_law_great_cabinet K)) [] :=
  cal_mk G 64 (d := d_law_great_cabinet) rfl rfl G.g_law_great_cabinet rfl sc_law_great_cabinet (spB_len fun Ts T ⟨_, h, _⟩ => by rw [h]; rfl) bi_law_great_cabinet (fun f cdv A outer s H vs Q E hr hsp => by
    obtain ⟨M, b, c, ws, Ts, T, hM, hbM, hB, rfl, hv, ⟨most, rfl, hmo, rfl⟩, hq⟩ := hsp
    obtain ⟨v1, rfl, h1⟩ := allT1 hv
    cases dp_int h1
    refine ⟨_, (pss_cons (ps_asg (C8.pe_c (cal_law_great G) hr (by decide) (by rfl) (pa_cons (pv 0) pa_nil)) (pg_tup rfl (pgs_cons (pg_name (i := 2) sc_law_great_cabinet.nd rfl (by first | exact Or.inl rfl | exact Or.inr rfl)) (pgs_cons (pg_name (i := 3) sc_law_great_cabinet.nd rfl (by first | exact Or.inl rfl | exact Or.inr rfl)) pgs_nil))))
      (pss_cons (ps_set (i := 4) sc_law_great_cabinet.nd rfl (by first | exact Or.inl rfl | exact Or.inr rfl) (pe_op op_add pe_int (C8.pe_c (cal_law_take G) hr (by decide) (by rfl) (pa_cons (pv 0) (pa_cons pe_int pa_nil)))))
      (pss_one (ps_ret (pe_tup (pa_cons (pv 2) (pa_cons (pv 3) (pa_cons (pv 4) (pa_cons (C8.pe_c (cal_law_windows G) hr (by decide) (by rfl) (pa_cons (pv 0) (pa_cons (pv 2) (pa_cons (pv 3) (pa_cons (pv 4) (pa_cons (pv 1) pa_nil)))))) pa_nil))))))))), ?_⟩
    refine sb_bind hM hB (eb_call (T := tyEx GreatOk (fun p => dat K (dNP p))) (R := R_law_great K) hbM rfl eba_nil ⟨rfl, rfl⟩) fun vp H1 f1 B1 ⟨⟨m, n⟩, hs, hvp⟩ => ?_
    refine g_tup2 (K := K) hvp fun y z hy hz => ?_
    cases dp_int hy
    cases dp_int hz
    dsimp only
    refine sb_set f1.ok B1 ((eb_add (K := K) (lo := 1) (hi := 2) (eb_int.wk (tI_in (by omega) (by omega))) (eb_call (T := tIn K 0 4) (R := R_law_take K) hbM rfl (eb_one eb_int) ⟨4, rfl, by omega, by omega, rfl⟩)).wk (tIn_wk (by omega) (by omega)) (U := tIn K 1 5)) fun v2 H2 f2 B2 ⟨st, hst, hv2⟩ => ?_
    cases dp_int hv2
    dsimp only
    obtain ⟨st, rfl⟩ : ∃ y : Nat, st = (y : Int) := ⟨st.toNat, by omega⟩
    have hs2 := hs
    obtain ⟨g1, g2, g3, g4⟩ := hs2
    refine sb_ret f2.ok B2 (eb_tup (K := K) (Ts := [tI K m, tI K n, tI K st, tyEx (WinsOk m n st most) (fun ws => dat K (dWins ws))]) (by simp) (eba_cons (eb_varI rfl) (eba_cons (eb_varI rfl) (eba_cons (eb_varI rfl) (eb_one (eb_call (R := R_law_windows K) hbM rfl (eba_cons (eb_varI rfl) (eba_cons (eb_varI rfl) (eba_cons (eb_varI rfl) (eb_one (eb_varI rfl))))) ⟨m, n, st, most, rfl, g1, g2, g3, g4, by omega, by omega, hmo, rfl⟩)))))) fun v H3 f3 B3 ⟨a, xs, e, hsq, hx⟩ => hq v H3 ((f1.comp f2).comp f3) B3 ?_
    obtain ⟨x1, x2, x3, x4, rfl, k1, k2, k3, ws, hws, k4⟩ := allT4 hx
    exact ⟨⟨m, n, st, ws⟩, ⟨hs, by show 1 ≤ st; omega, by show st ≤ 4; omega, hws⟩, by rw [e]; exact .tup hsq (.cons k1 (.cons k2 (.cons k3 (.cons k4 .nil))))⟩)
end
end WL
end
section
set_option Elab.async false
set_option linter.all false
set_option maxRecDepth 100000
set_option maxHeartbeats 4000000
/-! D25: _law_vectors, _law_unknown_span. -/
namespace WL
open PySem PySem.Spec PyProof.Rows L2 Evl HeadW
/-- tests that may change the bag -/
def ETB (b c : Addr) (M : List Addr) (t : TT) (σ : L2.St) (H : Hp) (P : Bool → Prop) : Prop :=
  ∀ H1, Fr [b] M H M H1 → BagOk H1 b c → ∀ Q : Bool → Hp → Prop, (∀ k H2, Fr [b] M H1 M H2 → BagOk H2 b c → P k → Q k H2) → t σ H1 Q
section
variable {K : PySem.W.Frag} {b c : Addr} {M : List Addr} {σ : L2.St} {H H' : Hp} {ta tb te : TE} {T T0 U : Ty} {D : Ends} {t u : TT} {tu tw : TS} {P P1 P2 : Bool → Prop}
theorem etb_e {k : Bool} (h : ∀ H1, Fr [b] M H M H1 → ET M t σ H1 k) : ETB b c M t σ H (· = k) := fun H1 f B Q q => h H1 f f.ok H1 (Ex.refl _) Q fun H2 e => q k H2 (Fr.ofEx f.ok e) (B.up e) rfl
theorem etb_test (h : EB b c M te σ H (tyEx P (tB K))) : ETB b c M (tTest te) σ H P := fun H1 f B Q q => h H1 f B _ fun v H2 f2 B2 ⟨k, hk, hv⟩ => ⟨k, dp_bl hv, q k H2 f2 B2 hk⟩
theorem ETB.wk (h : ETB b c M t σ H P1) (w : ∀ k, P1 k → P2 k) : ETB b c M t σ H P2 := fun H1 f B Q q => h H1 f B Q fun k H2 f2 B2 hk => q k H2 f2 B2 (w k hk)
theorem ETB.later (h : ETB b c M t σ H P) (f : Fr [b] M H M H') : ETB b c M t σ H' P := fun H1 f1 B Q q => h H1 (f.comp f1) B Q q
theorem etb_and (h1 : ETB b c M t σ H P1) (h2 : P1 true → ETB b c M u σ H P2) : ETB b c M (tAnd t u) σ H (fun k => k = true → P1 true ∧ P2 true) := fun H1 f B Q q => h1 H1 f B _ fun k H2 f2 B2 hk => by
  cases k with
  | true => exact iteT (h2 hk H2 (f.comp f2) B2 Q fun k H3 f3 B3 hk2 => q k H3 (f2.comp f3) B3 fun z => ⟨hk, z ▸ hk2⟩)
  | false => exact iteF (q false H2 f2 B2 fun z => by cases z)
theorem etb_or (h1 : ETB b c M t σ H P1) (h2 : P1 false → ETB b c M u σ H P2) : ETB b c M (tOr t u) σ H (fun k => k = false → P1 false ∧ P2 false) := fun H1 f B Q q => h1 H1 f B _ fun k H2 f2 B2 hk => by
  cases k with
  | true => exact iteT (q true H2 f2 B2 fun z => by cases z)
  | false => exact iteF (h2 hk H2 (f.comp f2) B2 Q fun k H3 f3 B3 hk2 => q k H3 (f2.comp f3) B3 fun z => ⟨hk, z ▸ hk2⟩)
theorem sb_if (hM : MOk M H) (B : BagOk H b c) (h : ETB b c M t σ H P) (h1 : P true → ∀ H1, Fr [b] M H M H1 → BagOk H1 b c → tu D σ H1) (h2 : P false → ∀ H1, Fr [b] M H M H1 → BagOk H1 b c → tw D σ H1) : tIfS t tu tw D σ H := h H (Fr.refl1 hM) B _ fun k H1 f B1 hk => by
  cases k with
  | true => exact iteT (h1 hk H1 f B1)
  | false => exact iteF (h2 hk H1 f B1)
theorem sb_ifW (W : L2.St → Hp → Prop) (hM : MOk M H) (B : BagOk H b c) (h : ETB b c M t σ H P) (q : ∀ σ' H', W σ' H' → D.nx σ' H') (h1 : P true → ∀ H1, Fr [b] M H M H1 → BagOk H1 b c → (∀ σ' H', W σ' H' → D.nx σ' H') → tu D σ H1) (h2 : P false → ∀ H1, Fr [b] M H M H1 → BagOk H1 b c → (∀ σ' H', W σ' H' → D.nx σ' H') → tw D σ H1) : tIfS t tu tw D σ H :=
  sb_if hM B h (fun p H1 f B1 => h1 p H1 f B1 q) (fun p H1 f B1 => h2 p H1 f B1 q)
/-- an item of a list that is being filled -/
theorem eb_rdL {α : Type} {us : List α} {f : α → PyData} {i : Nat} {p : Addr} {xs : List V} (hi : σ[i]? = some (some (.ref p))) (hp : H p = some (.lst xs)) (hpb : p ≠ b) (hx : DpAll K (hide M H) xs (us.map f)) (h : EB b c M te σ H (tIn K 0 (us.length : Int))) :
    EB b c M (tOp (rIxL K) (tVar i) te) σ H (tyEx (· ∈ us) (fun u => dat K (f u))) := fun H1 f1 B Q q => ⟨_, hi, h H1 f1 B _ fun v H2 f2 B2 ⟨k, ⟨k0, k1⟩, hv⟩ => by
  have hlt : k.toNat < us.length := by omega
  have hp2 : H2 p = some (.lst xs) := f2.keep p _ (by simp [hpb]) (f1.keep p _ (by simp [hpb]) hp)
  have hx2 : DpAll K (hide M H2) xs (us.map f) := hx.mono (f1.vis.trans f2.vis)
  obtain ⟨y, hy, hd⟩ := dpAll_get (i := k.toNat) (d := f us[k.toNat]) hx2 (by simp [hlt])
  refine ⟨p, xs, k, y, rfl, dp_int hv, sq_of hp2, ?_, q y H2 f2 B2 ⟨_, List.getElem_mem hlt, hd⟩⟩
  have := atI_nat' hy
  rwa [Int.toNat_of_nonneg k0] at this⟩
end
section
variable {w : World} {K : PySem.W.Frag} {mg : Str → Option Value} {base : Heap}
def VecsOk (m n most : Nat) (vs : List (List Int)) : Prop := vs.length ≤ most ∧ ∀ v ∈ vs, WM.Vec m n v
abbrev N_law_vectors : List Str := ["_law_bag_here", "_law_modulus", "_law_width", "_law_most", "_law_found", "_law_scales", "_law_k", "_law_scale", "_law_one", "_law_entry", "_law_other", "_law_times", "_law_j"]
theorem sc_law_vectors : FnScope N_law_vectors ["_law_bag_here", "_law_modulus", "_law_width", "_law_most"] d_law_vectors.scope := ⟨rfl, rfl, rfl, by decide +kernel, rfl, by decide +kernel, by decide +kernel⟩
theorem bi_law_vectors (kV doc pm : Value) (an : Option Addr) (cdv ct : Value) (us : List Value) (hl : us.length = 4) : bindArgs (PySem.W.fnOf d_law_vectors.name d_law_vectors.qual d_law_vectors.params d_law_vectors.body d_law_vectors.scope .none kV doc pm an cdv ct) ⟨us, []⟩ = pure ((["_law_bag_here", "_law_modulus", "_law_width", "_law_most"] : List Str).zip us) := by
  match us, hl with
  | [_, _, _, _], _ => rfl

def R_law_vectors (K : PySem.W.Frag) (Ts : List Ty) (T : Ty) : Prop := ∃ m n most : Nat, Ts = [tI K m, tI K n, tI K most] ∧ 2 ≤ m ∧ m ≤ 60 ∧ n ≤ 1000 ∧ most ≤ 20 ∧ T = tyEx (VecsOk m n most) (fun vs => dat K (dL vs))
theorem cal_law_vectors (G : Glb w K mg base) : C8.Cal PP w K mg base 3 "_law_vectors" (SpB (R_law_vectors K)) [] :=
  cal_mk G 57 (d := d_law_vectors) rfl rfl G.g_law_vectors rfl sc_law_vectors (spB_len fun Ts T ⟨_, _, _, h, _⟩ => by rw [h]; rfl) bi_law_vectors (fun f cdv A outer s H vs Q E hr hsp => by
    obtain ⟨M, b, c, ws, Ts, T, hM, hbM, hB, rfl, hv, ⟨m, n, most, rfl, hm, hm2, hn, hmo, rfl⟩, hq⟩ := hsp
    obtain ⟨v1, v2, v3, rfl, h1, h2, h3⟩ := allT3 hv
    cases dp_int h1
    cases dp_int h2
    cases dp_int h3
    refine ⟨_, (pss_cons (ps_par (i := 4) (j := 5) (by rfl) sc_law_vectors.nd rfl rfl (by decide) rfl rfl (pa_cons (pe_lst pa_nil) (pa_cons (C8.pe_c (cal_law_divisors G) hr (by decide) (by rfl) (pa_cons (pv 1) pa_nil)) pa_nil)) (by rfl))
      (pss_cons (ps_for PassesOwn.never rfl (pi_range1 (by rfl) G.f_range (pa_cons (C8.pe_c (cal_law_take G) hr (by decide) (by rfl) (pa_cons (pv 0) (pa_cons (pe_op op_add (pv 3) pe_int) pa_nil))) pa_nil)) (pg_name (i := 6) sc_law_vectors.nd rfl (by first | exact Or.inl rfl | exact Or.inr rfl)) (pss_cons (ps_set (i := 7) sc_law_vectors.nd rfl (by first | exact Or.inl rfl | exact Or.inr rfl) (pe_ix ix_list (pe_lst (pa_cons pe_int (pa_cons (pe_ix ix_list (pv 5) (C8.pe_c (cal_law_take G) hr (by decide) (by rfl) (pa_cons (pv 0) (pa_cons (pe_callB (id := "len") call_len (by rfl) G.f_len (by decide +kernel) (pa_cons (pv 5) pa_nil)) pa_nil))) (fun _ _ => rfl)) (pa_cons (pe_ix ix_list (pv 5) (C8.pe_c (cal_law_take G) hr (by decide) (by rfl) (pa_cons (pv 0) (pa_cons (pe_callB (id := "len") call_len (by rfl) G.f_len (by decide +kernel) (pa_cons (pv 5) pa_nil)) pa_nil))) (fun _ _ => rfl)) (pa_cons pe_int pa_nil))))) (C8.pe_c (cal_law_take G) hr (by decide) (by rfl) (pa_cons (pv 0) (pa_cons pe_int pa_nil))) (fun _ _ => rfl)))
      (pss_cons (ps_set (i := 8) sc_law_vectors.nd rfl (by first | exact Or.inl rfl | exact Or.inr rfl) (pe_lc (own := [("_law_entry", 9)]) (g := (gName 9)) (tt := tYes) rfl sc_law_vectors.nd (pi_tup (C8.pe_c (cal_law_vector G) hr (by decide) (by rfl) (pa_cons (pv 0) (pa_cons (pv 1) (pa_cons (pv 2) pa_nil))))) (blkOk_by (N := N_law_vectors) (sc := d_law_vectors.scope) (by decide +kernel)) (fun _ _ _ _ _ => (pg_name (i := 9) sc_law_vectors.nd rfl (by first | exact Or.inl rfl | exact Or.inr rfl))) (fun _ _ _ _ _ => pts_nil) (fun _ _ _ _ _ => (pe_op op_mod (pe_op op_mul (pv 7) (pv 9)) (pv 1)))))
      (pss_cons (ps_if (PW.pt (pw_and (pt_cmpR (op_neD hr.units) (pv 4) (pe_lst pa_nil) (nomark _)) (pw_and1 (pt_cmpR op_eq (C8.pe_c (cal_law_take G) hr (by decide) (by rfl) (pa_cons (pv 0) (pa_cons pe_int pa_nil))) pe_int (nomark _))))) (pss_cons (ps_asg (pe_tup (pa_cons (pe_ix ix_list (pv 4) (C8.pe_c (cal_law_take G) hr (by decide) (by rfl) (pa_cons (pv 0) (pa_cons (pe_callB (id := "len") call_len (by rfl) G.f_len (by decide +kernel) (pa_cons (pv 4) pa_nil)) pa_nil))) (fun _ _ => rfl)) (pa_cons (C8.pe_c (cal_law_take G) hr (by decide) (by rfl) (pa_cons (pv 0) (pa_cons (pv 1) pa_nil))) pa_nil))) (pg_tup rfl (pgs_cons (pg_name (i := 10) sc_law_vectors.nd rfl (by first | exact Or.inl rfl | exact Or.inr rfl)) (pgs_cons (pg_name (i := 11) sc_law_vectors.nd rfl (by first | exact Or.inl rfl | exact Or.inr rfl)) pgs_nil))))
      (pss_one (ps_set (i := 8) sc_law_vectors.nd rfl (by first | exact Or.inl rfl | exact Or.inr rfl) (pe_lc (own := [("_law_j", 12)]) (g := (gName 12)) (tt := tYes) rfl sc_law_vectors.nd (pi_range1 (by rfl) G.f_range (pa_cons (pv 2) pa_nil)) (blkOk_by (N := N_law_vectors) (sc := d_law_vectors.scope) (by decide +kernel)) (fun _ _ _ _ _ => (pg_name (i := 12) sc_law_vectors.nd rfl (by first | exact Or.inl rfl | exact Or.inr rfl))) (fun _ _ _ _ _ => pts_nil) (fun _ _ _ _ _ => (pe_op op_mod (pe_op op_add (pe_ix (ix_listK (K := K) rfl) (pv 8) (pv 12) (fun _ _ => rfl)) (pe_op op_mul (pv 11) (pe_ix (ix_tupK (K := K) rfl) (pv 10) (pv 12) (fun _ _ => rfl)))) (pv 1))))))) pss_nil)
      (pss_one (ps_expr (pe_bm PySem.F.plainAttrs_list PySem.F.slot_list_append PySem.F.type_list_append mt_append (pv 4) (pa_cons (pe_callTy (T := "tuple") call_tuple_of (by rfl) G.f_tuple (by decide +kernel) (pa_cons (pv 8) pa_nil)) pa_nil))))))))
      (pss_one (ps_ret (pv 4))))), ?_⟩
    have tk : ∀ {M : List Addr} {σ : L2.St} {H : Hp} {te : TE} (m : Int), b ∈ M → 0 < m → m < 1000000 → σ[0]? = some (some (.ref b)) → EB b c M te σ H (tI K m) → ∀ E, EB b c M (tCall (SpB (R_law_take K)) [] E (tCons (tVar 0) (tCons te tNil))) σ H (tIn K 0 m) := fun m hb h1 h2 h0 h E => eb_call (R := R_law_take K) hb h0 (eb_one h) ⟨m, rfl, h1, h2, rfl⟩
    refine s_parL (K := K) (d := .list ((WM.divs m).map .int)) hM (fun p hp => ed_call (R := R_law_divisors K) (ega_d (ed_varI rfl) ega_nil) ⟨m, rfl, by omega, rfl⟩) fun p v6 H1 hp e1 h6 => ?_
    dsimp only
    have f1 : Fr [b] M H (p :: M) H1 := ((Fr.refl1 hM).new hp).gex e1
    have B1 : BagOk H1 b c := (hB.up (Ex.new hp)).up e1
    have hbM' : b ∈ p :: M := by simp [hbM]
    have hpb := hB.fresh hp
    have p1 : H1 p = some (.lst []) := e1 p _ upd_same
    refine s_forB1 f1.ok B1 (tk _ hbM' (by omega) (by omega) rfl (eb_d fun H2 f2 => ed_add (ed_varI rfl) ed_int) _) fun vn H2 f2 B2 ⟨cnt, hcnt, hvn⟩ => ?_
    obtain ⟨cnt, rfl⟩ : ∃ y : Nat, cnt = (y : Int) := ⟨cnt.toNat, by omega⟩
    have fr2 := f1.trans f2 (fun _ h => .inl h)
    have p2 : H2 p = some (.lst []) := f2.keep p _ (by simp [hpb.1]) p1
    have h6' := Dp.mono h6 f2.vis
    refine s_for f2.ok (ei_r1 (K := K) (n := cnt) (by omega) (ea_one (ed_tv hvn))) (p :: M) (fun H3 i σ' H' => Fr [p, b] (p :: M) H3 (p :: M) H' ∧ BagOk H' b c ∧ ∃ (us : List (List Int)) (xs : List V) (y6 y7 y8 y9 y10 y11 y12 : Option V), σ' = [some (.ref b), some (.int m), some (.int n), some (.int most), some (.ref p), some v6, y6, y7, y8, y9, y10, y11, y12] ∧ H' p = some (.lst xs) ∧ DpAll K (hide (p :: M) H') xs (us.map dV) ∧ us.length = i ∧ i ≤ cnt ∧ ∀ u ∈ us, WM.Vec m n u) (fun H3 i σ' H' e P => ⟨P.1.vis, P.1.ok⟩) (fun H3 e => ⟨Fr.refl1 (f2.ok.ex e), B2.up e, [], [], none, none, none, none, none, none, none, rfl, e p _ p2, .nil, rfl, Nat.zero_le _, by simp⟩) ?_ ?_
    · rintro H3 i k vx σ' H' H4 e3 hi ⟨fr, B', us, xs, y6, y7, y8, y9, y10, y11, y12, rfl, hpx, hxs, hlen, hic, hus⟩ e4 hx
      cases dp_int hx
      dsimp only
      have hik : i < cnt := by
        obtain ⟨h, _⟩ := List.getElem?_eq_some_iff.mp hi
        simpa using h
      have fr4 := fr.gex e4
      have h64 := (h6'.mono (hide_ex e3)).mono fr4.vis
      refine sb_set fr4.ok (B'.up e4) (T := tyEx (fun _ : Int => True) (tI K)) ?_ fun v7 H5 f5 B5 ⟨sc, _, hv7⟩ => ?_
      · have sv : ∀ H5, Fr [b] (p :: M) H4 (p :: M) H5 → ∀ E, EB b c (p :: M) (tOp (rIxL K) (tVar 5) (tCall (SpB (R_law_take K)) [] E (tCons (tVar 0) (tCons (tCB (fun xs H Q => ∃ x n, xs = [x] ∧ LenV K x H n ∧ Q (.int n) H) (tCons (tVar 5) tNil)) tNil)))) [some (.ref b), some (.int m), some (.int n), some (.int most), some (.ref p), some v6, some (.int i), y7, y8, y9, y10, y11, y12] H5 (tyEx (fun _ : Int => True) (tI K)) := fun H5 f5 E => by
          refine eb_ixAll (K := K) (n := (WM.divs m).length) (Ts := ((WM.divs m).map .int).map (dat K)) (eb_var rfl (dp_tyL (Dp.mono h64 f5.vis))) (tk _ hbM' (by have := WM.divs_ne (n := m) (by omega); omega) (by have := WM.divs_len m; omega) rfl (eb_d fun H8 f8 => (ed_len (K := K) (ds := (WM.divs m).map .int) (ed_var rfl (Dp.mono h64 (f5.vis.trans f8.vis)))).to (by rw [List.length_map])) _) (by simp) ?_
          intro T hT v H' h
          rw [List.map_map] at hT
          obtain ⟨d, hd, rfl⟩ := List.mem_map.mp hT
          exact ⟨d, trivial, h⟩
        refine eb_ixAll (n := 4) (Ts := [tI K 1, tyEx (fun _ : Int => True) (tI K), tyEx (fun _ : Int => True) (tI K), tI K 0]) (eb_lst (by simp) (eba_cons eb_int (eba_cons (sv _ (Fr.refl1 fr4.ok) _) (eba_cons (sv _ (Fr.refl1 fr4.ok) _) (eb_one eb_int))))) (tk _ hbM' (by omega) (by omega) rfl eb_int _) (by simp) ?_
        intro T hT v H' h
        simp only [List.mem_cons, List.not_mem_nil, or_false] at hT
        rcases hT with e | e | e | e <;> subst e
        · exact ⟨1, trivial, h⟩
        · exact h
        · exact h
        · exact ⟨0, trivial, h⟩
      cases dp_int hv7
      dsimp only
      refine sb_set f5.ok B5 (T := tyEx (WM.Vec m n) (fun v => dat K (.list (v.map .int)))) ?_ fun v8 H6 f6 B6 ⟨one, hone, hv8⟩ => ?_
      · refine eb_in (F := fun t => tLc (iTup K t) _ _ _ _) (eb_call (T := tyEx (WM.Vec m n) (tV K)) (R := R_law_vector K) hbM' rfl (eba_cons (eb_varI rfl) (eb_one (eb_varI rfl))) ⟨m, n, rfl, by omega, by omega, hn, rfl⟩) fun x H6 f6 ⟨v, hvv, hx⟩ => EG.wk (T := dat K (.list ((v.map fun e => sc * e % m).map .int))) (U := tyEx (WM.Vec m n) (fun v => dat K (.list (v.map .int)))) (ED.eg ((ed_lcT1 (K := K) (src := v) (g := .int) (ed_tv hx) (by have := hvv.len; omega) (fun e => .int (sc * e % m)) (fun _ => rfl) fun M' H' y a ex hM' ha hy => ?_).to (by rw [List.map_map]; rfl))) fun u H' h => ⟨_, ⟨by rw [List.length_map]; exact hvv.len, fun a ha => ?_⟩, h⟩
        · cases dp_int hy
          have := hvv.rng a ha
          exact ed_mod (K := K) (by omega) (ed_mul (cmulR (by omega)) (ed_varI rfl) (ed_varI rfl)) (ed_varI rfl)
        · obtain ⟨e, _, rfl⟩ := List.mem_map.mp ha
          exact ⟨Int.emod_nonneg _ (by omega), Int.emod_lt_of_pos _ (by omega)⟩
      dsimp only
      refine sb_ifW (fun σ' H' => ∃ (one : List Int) (v8 : V) (y6 y7 y9 y10 y11 y12 : Option V), σ' = [some (.ref b), some (.int m), some (.int n), some (.int most), some (.ref p), some v6, y6, y7, some v8, y9, y10, y11, y12] ∧ Fr [b] (p :: M) H4 (p :: M) H' ∧ BagOk H' b c ∧ WM.Vec m n one ∧ Dp K (hide (p :: M) H') v8 (.list (one.map .int))) f6.ok B6 (P := fun k => k = true → us ≠ []) ?_ ?_ ?_ fun _ H7 f7 B7 k2 => k2 _ _ ⟨one, v8, _, _, _, _, _, _, rfl, (f5.comp f6).comp f7, B7, hone, Dp.mono hv8 f7.vis⟩
      · refine ETB.wk (etb_and (P1 := fun k => k = true → us ≠ []) (P2 := fun _ => True) ((etb_e (k := !(us.map dV).isEmpty) fun H7 f7 => ?_).wk fun k hk z e => by rw [z, e] at hk; cases hk) (fun h1 => etb_test (eb_in (F := fun t => tOp _ t _) (tk 4 hbM' (by omega) (by omega) rfl eb_int _) fun x H7 f7 ⟨i, _, hx⟩ => EG.wk (ed_eqI (K := K) (ed_tv hx) ed_int).eg fun v H' h => ⟨_, trivial, h⟩))) fun k h z => (h z).1 rfl
        have f57 := (f5.comp f6).comp f7
        exact et_ne_nil (K := K) (ds := us.map dV) rfl (f57.keep p _ (by simp [hpb.1]) (e4 p _ hpx)) (hxs.mono ((hide_ex e4).trans f57.vis)) (shaped_dL us)
      · rintro σ' H7 ⟨one, v8, z6, z7, z9, z10, z11, z12, rfl, f7, B7, hone, hv8⟩
        dsimp only
        have fr7 := fr4.trans f7 fun a ha => .inl (by simp at ha; simp [ha])
        have p7 : H7 p = some (.lst xs) := f7.keep p _ (by simp [hpb.1]) (e4 p _ hpx)
        have hl := dpAll_len hxs
        rw [List.length_map] at hl
        refine s_append (T := dat K (dV one)) fr7.ok p7 rfl (ED.eg (ed_tupleOf (K := K) (ed_var rfl hv8))) (by omega) fun vw H8 e8 hvw => ?_
        dsimp only
        have f10 := (fr7.gex e8).upd (a := p) (o := .lst (xs ++ [vw])) (by simp) (.inl (by simp))
        refine ⟨f10, (B7.up e8).upd hpb.1 hpb.2, us ++ [one], xs ++ [vw], _, _, _, _, _, _, _, rfl, upd_same, ?_, by simp [hlen], hik, fun u hu => ?_⟩
        · rw [hide_upd (by simp), List.map_append]
          exact dpAll_app (hxs.mono (((hide_ex e4).trans f7.vis).trans (hide_ex e8))) (.cons hvw .nil)
        · rcases List.mem_append.mp hu with z | z
          · exact hus u z
          · rw [List.mem_singleton.mp z]; exact hone
      · intro hP H7 f7 B7 k2
        have hne := hP rfl
        have hpos : 0 < us.length := List.length_pos_iff.mpr hne
        have f47 := (f5.comp f6).comp f7
        have p7 : H7 p = some (.lst xs) := f47.keep p _ (by simp [hpb.1]) (e4 p _ hpx)
        have hl := dpAll_len hxs
        rw [List.length_map] at hl
        have hxs7 : DpAll K (hide (p :: M) H7) xs (us.map dV) := hxs.mono ((hide_ex e4).trans f47.vis)
        refine sb_bind f7.ok B7 (eb_tup (K := K) (Ts := [tyEx (· ∈ us) (fun u => dat K (dV u)), tIn K 0 m]) (by simp) (eba_cons (eb_rdL rfl p7 hpb.1 hxs7 (tk _ hbM' (by omega) (by omega) rfl (eb_d fun H8 f8 => (ed_lenR (K := K) (f8.keep p _ (by simp [hpb.1]) p7) (eg_var (T := tyEq (.ref p)) rfl rfl)).to (by rw [hl])) _)) (eb_one (tk _ hbM' (by omega) (by omega) rfl (eb_varI rfl) _)))) fun vt H8 f8 B8 ⟨a, zs, e, hsq, hzs⟩ => ?_
        obtain ⟨y1, y2, rfl, ⟨ot, hot, hy1⟩, ⟨tm, htm, hy2⟩⟩ := allT2 hzs
        subst e
        refine g_tup2 (K := K) (a := dV ot) (b := .int tm) (.tup hsq (.cons hy1 (.cons hy2 .nil))) fun y z hy hz => ?_
        cases dp_int hz
        dsimp only
        have h8 := Dp.mono hv8 (f7.vis.trans f8.vis)
        refine sd_set (K := K) (d := .list (((List.range n).map fun j => (WM.at_ one j + tm * WM.at_ ot j) % m).map .int)) f8.ok ((ed_lcR1 (n := n) (ea_one (ed_varI rfl)) (by omega) (fun j => .int ((WM.at_ one j + tm * WM.at_ ot j) % m)) (fun _ => rfl) fun M' H' k ex hM' hk => ?_).to (by rw [List.map_map]; rfl)) fun v9 H9 e9 hv9 => ?_
        · exact ed_mod (K := K) (by omega) (ed_add (ed_ixL (ds := one.map .int) (atI_nat' (by rw [List.getElem?_map, WM.at_some (by rw [hone.len]; exact hk)]; rfl)) (ed_var rfl (h8.mono ex)) (ed_varI rfl)) (ed_mul (cmulL (by omega)) (ed_varI rfl) (ed_at (by rw [(hus ot hot).len]; exact hk) (ed_var rfl (Dp.mono hy ex)) (ed_varI rfl)))) (ed_varI rfl)
        · dsimp only
          refine k2 _ _ ⟨_, _, _, _, _, _, _, _, rfl, (f47.comp f8).gex e9, B8.up e9, ⟨by simp, fun a ha => ?_⟩, hv9⟩
          obtain ⟨e, _, rfl⟩ := List.mem_map.mp ha
          exact ⟨Int.emod_nonneg _ (by omega), Int.emod_lt_of_pos _ (by omega)⟩
    · rintro H3 σ' H' e3 ⟨fr, B', us, xs, y6, y7, y8, y9, y10, y11, y12, rfl, hpx, hxs, hlen, hic, hus⟩
      dsimp only
      have hpM : p ∉ M := hM.new hp
      have fz : Fr [b] M H (p :: M) H' := (fr2.gex e3).trans fr fun a ha => by
        simp only [List.mem_cons, List.not_mem_nil, or_false] at ha
        rcases ha with z | z
        · exact .inr (z ▸ hp)
        · exact .inl (by simp [z])
      have fb := fz.back fun a ha => by simp [ha]
      refine sd_ret (K := K) (d := dL us) fb.ok (ed_var rfl (.lst (sq_of (by rw [hide_out hpM]; exact hpx)) (hxs.mono (hide_less fun a ha => by simp [ha])))) fun v H5 e5 h => hq v H5 (fb.gex e5) (B'.up e5) ⟨us, ⟨by omega, hus⟩, h⟩)
end
end WL
end
section
set_option Elab.async false
set_option linter.all false
set_option maxRecDepth 100000
set_option maxHeartbeats 4000000
/-! D26: _law_unknown_span, _law_plan. -/
namespace WL
open PySem PySem.Spec PyProof.Rows L2 Evl HeadW
section
variable {w : World} {K : PySem.W.Frag} {mg : Str → Option Value} {base : Heap}
abbrev N_law_unknown_span : List Str := ["_law_bag_here", "_law_modulus", "_law_wheels", "_law_at", "_law_k"]
theorem sc_law_unknown_span : FnScope N_law_unknown_span ["_law_bag_here", "_law_modulus", "_law_wheels"] d_law_unknown_span.scope := ⟨rfl, rfl, rfl, by decide +kernel, rfl, by decide +kernel, by decide +kernel⟩
theorem bi_law_unknown_span (kV doc pm : Value) (an : Option Addr) (cdv ct : Value) (us : List Value) (hl : us.length = 3) : bindArgs (PySem.W.fnOf d_law_unknown_span.name d_law_unknown_span.qual d_law_unknown_span.params d_law_unknown_span.body d_law_unknown_span.scope .none kV doc pm an cdv ct) ⟨us, []⟩ = pure ((["_law_bag_here", "_law_modulus", "_law_wheels"] : List Str).zip us) := by
  match us, hl with
  | [_, _, _], _ => rfl

def R_law_unknown_span (K : PySem.W.Frag) (Ts : List Ty) (T : Ty) : Prop := ∃ m n : Nat, Ts = [tI K m, tI K n] ∧ 2 ≤ m ∧ m ≤ 60 ∧ n ≤ 6 ∧ T = tyEx (VecsOk m n 6) (fun vs => dat K (dL vs))
theorem cal_law_unknown_span (G : Glb w K mg base) : C8.Cal PP w K mg base 4 "_law_unknown_span" (SpB (R_law_unknown_span K)) [] :=
  cal_mk G 61 (d := d_law_unknown_span) rfl rfl G.g_law_unknown_span rfl sc_law_unknown_span (spB_len fun Ts T ⟨_, _, h, _⟩ => by rw [h]; rfl) bi_law_unknown_span (fun f cdv A outer s H vs Q E hr hsp => by
    obtain ⟨M, b, c, ws, Ts, T, hM, hbM, hB, rfl, hv, ⟨m, n, rfl, hm, hm2, hn, rfl⟩, hq⟩ := hsp
    obtain ⟨v1, v2, rfl, h1, h2⟩ := allT2 hv
    cases dp_int h1
    cases dp_int h2
    refine ⟨_, (pss_cons (ps_if (pt_cmpR op_gt (C8.pe_c (cal_law_take G) hr (by decide) (by rfl) (pa_cons (pv 0) (pa_cons pe_int pa_nil))) pe_int (nomark _)) (pss_one (ps_ret (pe_lc (own := [("_law_at", 3)]) (g := (gName 3)) (tt := tYes) rfl sc_law_unknown_span.nd (pi_range1 (by rfl) G.f_range (pa_cons (pv 2) pa_nil)) (blkOk_by (N := N_law_unknown_span) (sc := d_law_unknown_span.scope) (by decide +kernel)) (fun _ _ _ _ _ => (pg_name (i := 3) sc_law_unknown_span.nd rfl (by first | exact Or.inl rfl | exact Or.inr rfl))) (fun _ _ _ _ _ => pts_nil) (fun _ _ _ _ _ => (pe_callTy (T := "tuple") (call_tuple_ofK (K := K) rfl) (by rfl) G.f_tuple (by decide +kernel) (pa_cons (pe_lc (own := [("_law_k", 4)]) (g := (gName 4)) (tt := tYes) rfl sc_law_unknown_span.nd (pi_range1 (by rfl) G.f_range (pa_cons (pv 2) pa_nil)) (blkOk_by (by rfl)) (fun _ _ _ _ _ => (pg_name (i := 4) sc_law_unknown_span.nd rfl (by first | exact Or.inl rfl | exact Or.inr rfl))) (fun _ _ _ _ _ => pts_nil) (fun _ _ _ _ _ => (pe_callTy (T := "int") call_int1 (by rfl) G.f_int (by decide +kernel) (pa_cons (pe_cmpR op_eq (pv 4) (pv 3) (nomark _)) pa_nil)))) pa_nil)))))) pss_nil)
      (pss_one (ps_ret (C8.pe_c (cal_law_vectors G) hr (by decide) (by rfl) (pa_cons (pv 0) (pa_cons (pv 1) (pa_cons (pv 2) (pa_cons pe_int pa_nil)))))))), ?_⟩
    refine sb_if hM hB (P := fun _ => True) (etb_test (eb_in (F := fun t => tOp _ t _) (eb_call (T := tIn K 0 3) (R := R_law_take K) hbM rfl (eb_one eb_int) ⟨3, rfl, by omega, by omega, rfl⟩) fun x H7 f7 ⟨i, _, hx⟩ => EG.wk (ed_cmp (K := K) (ed_tv hx) ed_int).eg fun v H' h => ⟨_, trivial, h⟩)) (fun _ H1 f1 B1 => ?_) (fun _ H1 f1 B1 => ?_)
    · refine sd_ret (K := K) (d := dL (WM.unitM n)) f1.ok ((ed_lcR1 (n := n) (ea_one (ed_varI rfl)) (by omega) (fun k => dV ((List.range n).map fun j => if j = k then 1 else 0)) (fun _ => rfl) fun M' H' k ex hM' hk => ?_).to (by show _ = PyData.list ((WM.unitM n).map dV); rw [WM.unitM, List.map_map]; rfl)) fun v H2 e h => hq v H2 (f1.gex e) (B1.up e) ⟨_, ⟨by rw [WM.unitM, List.length_map, List.length_range]; omega, ?_⟩, h⟩
      · refine (ed_tupleOf (ed_lcR1 (K := K) (n := n) (ea_one (ed_varI rfl)) (by omega) (fun j => .int (if j = k then 1 else 0)) (fun _ => rfl) fun M2 H2 j ex2 hM2 hj => ?_)).to (by show _ = PyData.tuple (((List.range n).map fun j => if j = k then (1 : Int) else 0).map .int); rw [List.map_map]; rfl)
        have := ed_intB (K := K) (M := M2) (H := H2) (σ := [some (.ref b), some (.int (m : Int)), some (.int (n : Int)), some (.int (k : Int)), some (.int (j : Int))]) (ed_eqI (ed_varI (k := 4) rfl) (ed_varI (k := 3) rfl))
        have e2 : (if (decide ((j : Int) = k)) = true then (1 : Int) else 0) = if j = k then 1 else 0 := by
          by_cases z : j = k
          · simp [z]
          · have : ¬ (j : Int) = k := by omega
            simp [z, this]
        rw [e2] at this
        exact this
      · exact (WM.unit_mat (m := m) (by omega) n).2
    · dsimp only [tNext]
      refine sb_ret f1.ok B1 (eb_call (R := R_law_vectors K) hbM rfl (eba_cons (eb_varI rfl) (eba_cons (eb_varI rfl) (eb_one eb_int))) ⟨m, n, 4, rfl, hm, hm2, by omega, by omega, rfl⟩) fun v H2 f2 B2 ⟨vs, ⟨h1, h2⟩, h⟩ => hq v H2 (f1.comp f2) B2 ⟨vs, ⟨by omega, h2⟩, h⟩)
theorem cal_falseB (G : Glb w K mg base) (i : Nat) {d : He.DefD} (h : fn[i]? = some d) {x : Str} (hx : d.at_ = (x, none)) (hm : mg x = some (.ref (He.ga K x))) (hd : d.dvs K = []) {ps : List Str} (k : Nat) (R : List Ty → Ty → Prop) (hR : ∀ Ts T, ¬ R Ts T)
    (hb : ∀ (kV doc pm : Value) (an : Option Addr) (cdv ct : Value) (us : List Value), us.length = ps.length → bindArgs (PySem.W.fnOf d.name d.qual d.params d.body d.scope .none kV doc pm an cdv ct) ⟨us, []⟩ = pure (ps.zip us)) : C8.Cal PP w K mg base k x (SpB R) [] := by
  obtain ⟨fd, F⟩ := G.says.d.def_ i h
  rw [hd] at F
  rw [hx] at F
  exact ⟨He.ga K x, fd, ps, [], ⟨fun vs H Q E ⟨_, _, _, _, Ts, T, _, _, _, _, _, r, _⟩ => absurd r (hR Ts T), fun A outer s H args us vs Q E _ _ _ _ ⟨_, _, _, _, Ts, T, _, _, _, _, _, r, _⟩ => absurd r (hR Ts T)⟩, hm, F.kp, F.bindsN hb, .nil⟩
theorem layMv (n : Nat) (o : Option Nat) : LayD n (dMv o) := by
  cases o with
  | none => exact ⟨by simp [dMv, PyData.canLay0], by simp [dMv, PyData.depth]⟩
  | some k => exact layI n _
theorem layS (n : Nat) (x : Str) (h : PyData.strOk x = true) : LayD n (.str x) := ⟨by simp [PyData.canLay0, h], by simp [PyData.depth]⟩
theorem name_lay {x : Str} (h : NameOk x) : PyData.strOk x = true := by
  unfold PyData.strOk
  rw [← Array.all_toList, List.all_eq_true]
  intro c hc
  have := h.2.2 c hc
  simp
  omega
theorem layWin (n : Nat) (u : W) (h : NameOk u.name) : LayD (n + 2) (dWin u) := layU fun d hd => by
  simp only [List.mem_cons, List.not_mem_nil, or_false] at hd
  rcases hd with e | e | e | e | e | e <;> subst e
  · exact layS _ _ (name_lay h)
  · exact layI _ _
  · exact layI _ _
  · exact layI _ _
  · exact layI _ _
  · exact layU fun d hd => by
      obtain ⟨o, _, rfl⟩ := List.mem_map.mp hd
      exact layMv _ _
theorem named_of {ws : List W} (h : (ws.map fun u => u.name).Nodup) {u : W} (hu : u ∈ ws) : WM.Named ws u.name u := ⟨hu, rfl, fun u' hu' e => by
  induction ws with
  | nil => cases hu
  | cons a ws ih =>
    rw [List.map_cons, List.nodup_cons] at h
    rcases List.mem_cons.mp hu with x | x <;> rcases List.mem_cons.mp hu' with y | y
    · rw [x, y]
    · exact absurd (List.mem_map.mpr ⟨u', y, by rw [e, x]⟩) h.1
    · exact absurd (List.mem_map.mpr ⟨u, x, by rw [← e, y]⟩) h.1
    · exact ih h.2 x y⟩
theorem wid_sum {k : Nat} : ∀ {subs : List Pl}, (∀ p ∈ subs, wid p ≤ k) → (subs.map wid).sum ≤ subs.length * k
  | [], _ => by simp
  | p :: subs, h => by
    have h1 := h p (by simp)
    have h2 := wid_sum (subs := subs) fun q hq => h q (by simp [hq])
    rw [List.map_cons, List.sum_cons, List.length_cons, Nat.succ_mul]
    omega
/-- the windows that may be looked through here -/
def planF (mk room : Nat) (u : W) : Bool := (!isN (dMv (u.moves[mk]?.getD none))) && decide (u.pane ≤ room)
abbrev N_law_plan : List Str := ["_law_bag_here", "_law_windows_here", "_law_here", "_law_looks", "_law_room", "_law_some", "_law_window", "_law_left", "_law_plans", "_law_k"]
theorem sc_law_plan : FnScope N_law_plan ["_law_bag_here", "_law_windows_here", "_law_here", "_law_looks", "_law_room"] d_law_plan.scope := ⟨rfl, rfl, rfl, by decide +kernel, rfl, by decide +kernel, by decide +kernel⟩
theorem bi_law_plan (kV doc pm : Value) (an : Option Addr) (cdv ct : Value) (us : List Value) (hl : us.length = 5) : bindArgs (PySem.W.fnOf d_law_plan.name d_law_plan.qual d_law_plan.params d_law_plan.body d_law_plan.scope .none kV doc pm an cdv ct) ⟨us, []⟩ = pure ((["_law_bag_here", "_law_windows_here", "_law_here", "_law_looks", "_law_room"] : List Str).zip us) := by
  match us, hl with
  | [_, _, _, _, _], _ => rfl

def R_law_plan (K : PySem.W.Frag) : Nat → List Ty → Ty → Prop
  | 0, _, _ => False
  | d + 1, Ts, T => ∃ (m n st : Nat) (ws : List W) (mk room : Nat), Ts = [dat K (dWins ws), tI K mk, tI K d, tI K room] ∧ (∀ u ∈ ws, WM.WinOk m n st u ∧ NameOk u.name) ∧ (ws.map fun u => u.name).Nodup ∧ ws.length ≤ 20 ∧ m ≤ 60 ∧ mk < st ∧ 1 ≤ room ∧ room ≤ 1000 ∧ T = tyEx (fun p : Pl => WM.PlanOk ws p mk d ∧ wid p ≤ room) (fun p => dat K (dPlan p))
theorem cal_law_plan (G : Glb w K mg base) : ∀ d, C8.Cal PP w K mg base (3 + d) "_law_plan" (SpB (R_law_plan K d)) []
  | 0 => cal_falseB G 69 (d := d_law_plan) (ps := ["_law_bag_here", "_law_windows_here", "_law_here", "_law_looks", "_law_room"]) rfl rfl G.g_law_plan rfl 3 _ (fun _ _ h => h) bi_law_plan
  | d + 1 => by
    have ih := cal_law_plan G d
    refine cal_mk G 69 (d := d_law_plan) rfl rfl G.g_law_plan rfl sc_law_plan (k := 3 + d) (spB_len fun Ts T ⟨_, _, _, _, _, _, h, _⟩ => by rw [h]; rfl) bi_law_plan (fun f cdv A outer s H vs Q E hr hsp => ?_)
    obtain ⟨M, b, c, vs, Ts, T, hM, hbM, hB, rfl, hv, ⟨m, n, st, ws, mk, room, rfl, hws, hnd, hwl, hm, hmk, hr1, hr2, rfl⟩, hq⟩ := hsp
    obtain ⟨v1, v2, v3, v4, rfl, h1, h2, h3, h4⟩ := allT4 hv
    cases dp_int h2
    cases dp_int h3
    cases dp_int h4
    refine ⟨_, (pss_cons (ps_setLc (i := 5) (own := [("_law_window", 6)]) (g := (gName 6)) (tt := _) rfl sc_law_plan.nd rfl rfl (sw_true rfl rfl rfl (by decide +kernel)) (pi_list (pv 1)) (blkOk_by (N := N_law_plan) (sc := d_law_plan.scope) (by decide +kernel)) (fun _ _ _ _ _ => (pg_name (i := 6) sc_law_plan.nd rfl (by first | exact Or.inl rfl | exact Or.inr rfl))) (fun _ _ _ _ _ => (pts_one (PW.pt (pw_and (pt_cmpR op_notN1 (pe_ix (ix_tupK (K := K) rfl) (pe_ix (ix_tupK (K := K) rfl) (pv 6) pe_int (fun _ _ => rfl)) (pv 2) (fun _ _ => rfl)) pe_non (nomark _)) (pw_and1 (pt_cmpR op_le (pe_ix (ix_tupK (K := K) rfl) (pv 6) pe_int (fun _ _ => rfl)) (pv 4) (nomark _))))))) (fun _ _ _ _ _ => (pv 6)))
      (pss_cons (ps_if (PW.pt (pw_or (pt_cmpR op_eq (pv 3) pe_int (nomark _)) (pw_or (pt_cmpR (op_eqD hr.units) (pv 5) (pe_lst pa_nil) (nomark _)) (pw_or1 (pt_cmpR op_eq (C8.pe_c (cal_law_take G) hr (by omega) (by rfl) (pa_cons (pv 0) (pa_cons pe_int pa_nil))) pe_int (nomark _)))))) (pss_one (ps_ret pe_non)) pss_nil)
      (pss_cons (ps_set (i := 6) sc_law_plan.nd rfl (by first | exact Or.inl rfl | exact Or.inr rfl) (pe_ix ix_list (pv 5) (C8.pe_c (cal_law_take G) hr (by omega) (by rfl) (pa_cons (pv 0) (pa_cons (pe_callB (id := "len") call_len (by rfl) G.f_len (by decide +kernel) (pa_cons (pv 5) pa_nil)) pa_nil))) (fun _ _ => rfl)))
      (pss_cons (ps_set (i := 7) sc_law_plan.nd rfl (by first | exact Or.inl rfl | exact Or.inr rfl) (pe_op op_fdiv (pv 4) (pe_ix ix_tup (pv 6) pe_int (fun _ _ => rfl))))
      (pss_cons (ps_setLc (i := 8) (own := [("_law_k", 9)]) (g := (gName 9)) (tt := tYes) rfl sc_law_plan.nd rfl rfl (sw_true rfl rfl rfl (by decide +kernel)) (pi_range1 (by rfl) G.f_range (pa_cons (pe_ix ix_tup (pv 6) pe_int (fun _ _ => rfl)) pa_nil)) (blkOk_by (N := N_law_plan) (sc := d_law_plan.scope) (by decide +kernel)) (fun _ _ _ _ _ => (pg_name (i := 9) sc_law_plan.nd rfl (by first | exact Or.inl rfl | exact Or.inr rfl))) (fun _ _ _ _ _ => pts_nil) (fun _ _ _ _ _ => (C8.pe_c ih hr (by omega) (by rfl) (pa_cons (pv 0) (pa_cons (pv 1) (pa_cons (pe_ix (ix_tupK (K := K) rfl) (pe_ix (ix_tupK (K := K) rfl) (pv 6) pe_int (fun _ _ => rfl)) (pv 2) (fun _ _ => rfl)) (pa_cons (pe_op op_sub (pv 3) pe_int) (pa_cons (pv 7) pa_nil))))))))
      (pss_one (ps_ret (pe_tup (pa_cons (pe_ix ix_tup (pv 6) pe_int (fun _ _ => rfl)) (pa_cons (pv 8) pa_nil)))))))))), ?_⟩
    refine sd_set (K := K) (d := .list ((ws.filter (planF mk room)).map dWin)) hM (ed_lcL (src := ws) (g := dWin) (ed_var rfl h1) (by omega) (planF mk room) dWin (fun _ => rfl) (fun M' H' y u ex hM' hu hy => ?_) fun M' H' y u ex hM' hu _ hy => ed_var rfl hy) fun v5 H1 e1 h5 => ?_
    · have hwu := (hws u hu).1
      have hlt : mk < u.moves.length := by rw [hwu.len]; exact hmk
      obtain ⟨o, ho⟩ : ∃ o, u.moves[mk]? = some o := ⟨_, List.getElem?_eq_getElem hlt⟩
      unfold planF
      rw [ho, Option.getD_some]
      exact et_and (et_test (ed_notN (K := K) (ed_ixT (ds := u.moves.map dMv) (d := dMv o) (atI_nat' (by rw [List.getElem?_map, ho]; rfl)) (ed_ixT (ds := dWinL u) (d := .tuple (u.moves.map dMv)) rfl (ed_var rfl hy) ed_int) (ed_varI rfl)))) fun _ => et_test (ed_cmp (K := K) (ed_ixT (ds := dWinL u) (d := .int u.pane) rfl (ed_var rfl hy) ed_int) (ed_varI rfl))
    dsimp only
    generalize hsome : (ws.filter (planF mk room)) = some_ at h5
    have f1 := Fr.ofEx (B := [b]) hM e1
    refine sb_if f1.ok (hB.up e1) (P := fun k => k = false → d ≠ 0 ∧ some_ ≠ []) ?_ (fun _ H2 f2 B2 => ?_) (fun hP H2 f2 B2 => ?_)
    · refine ETB.wk (etb_or (P1 := fun k => k = false → d ≠ 0) (P2 := fun k => k = false → some_ ≠ []) ((etb_e (k := decide ((d : Int) = 0)) fun H2 f2 => et_test (ed_eqI (K := K) (ed_varI rfl) ed_int)).wk fun k hk z e => by rw [z, e] at hk; simp at hk) fun _ => ETB.wk (etb_or (P1 := fun k => k = false → some_ ≠ []) (P2 := fun _ => True) ((etb_e (k := PyData.eqv (.list (some_.map dWin)) (.list [])) fun H2 f2 => et_test (ed_eqD (K := K) ?_ ?_ (ed_var rfl (Dp.mono h5 f2.vis)) (ed_lst (by simp) ea_nil))).wk fun k hk z e => by rw [z, e, eqv_nil] at hk; cases hk) fun _ => etb_test (eb_in (F := fun t => tOp _ t _) (eb_call (T := tIn K 0 5) (R := R_law_take K) hbM rfl (eb_one eb_int) ⟨5, rfl, by omega, by omega, rfl⟩) fun x H7 f7 ⟨i, _, hx⟩ => EG.wk (ed_eqI (K := K) (ed_tv hx) ed_int).eg fun v H' h => ⟨_, trivial, h⟩)) fun k h z => (h z).1 rfl) fun k h z => ⟨(h z).1 rfl, (h z).2 rfl⟩
      · exact (layL (n := 2) fun d hd => by
          obtain ⟨u, hu, rfl⟩ := List.mem_map.mp hd
          rw [← hsome, List.mem_filter] at hu
          exact layWin 0 u (hws u hu.1).2).sh (by decide)
      · exact (layL (n := 0) fun d hd => by cases hd).sh (by decide)
    · exact hq .non H2 (f1.comp f2) B2 ⟨.none, ⟨.none, hr1⟩, .non⟩
    · dsimp only [tNext]
      obtain ⟨hd, hne⟩ := hP rfl
      have h52 := Dp.mono h5 f2.vis
      have hpos : 0 < some_.length := List.length_pos_iff.mpr hne
      have hsl : some_.length ≤ 20 := by rw [← hsome]; exact Nat.le_trans (List.length_filter_le _ _) hwl
      refine sb_set f2.ok B2 (eb_ixAll (K := K) (n := some_.length) (Ts := (some_.map dWin).map (dat K)) (U := tyEx (· ∈ some_) (fun u => dat K (dWin u))) (eb_var rfl (dp_tyL h52)) (eb_call (R := R_law_take K) hbM rfl (eb_one (eb_d fun H3 f3 => (ed_len (K := K) (ds := some_.map dWin) (ed_var rfl (Dp.mono h52 f3.vis))).to (by rw [List.length_map]))) ⟨some_.length, rfl, by omega, by omega, rfl⟩) (by simp) ?_) fun v6 H3 f3 B3 ⟨u, hu, hv6⟩ => ?_
      · intro T hT v H' h
        rw [List.map_map] at hT
        obtain ⟨u, hu, rfl⟩ := List.mem_map.mp hT
        exact ⟨u, hu, h⟩
      dsimp only
      rw [← hsome, List.mem_filter] at hu
      obtain ⟨hu, huf⟩ := hu
      have hwu := (hws u hu).1
      have hlt : mk < u.moves.length := by rw [hwu.len]; exact hmk
      obtain ⟨o, ho⟩ : ∃ o, u.moves[mk]? = some o := ⟨_, List.getElem?_eq_getElem hlt⟩
      unfold planF at huf
      rw [ho, Option.getD_some] at huf
      simp only [Bool.and_eq_true, decide_eq_true_eq] at huf
      obtain ⟨hno, hpr⟩ := huf
      obtain ⟨mk', rfl⟩ : ∃ k, o = some k := by
        cases o with
        | none => simp [dMv, isN] at hno
        | some k => exact ⟨k, rfl⟩
      have hmk' := hwu.rng mk' (List.mem_of_getElem? ho)
      have hpn := hwu.pane
      obtain ⟨pn, hpe⟩ : ∃ y : Nat, u.pane = (y : Int) := ⟨u.pane.toNat, by omega⟩
      have hpn0 : 0 < pn := by omega
      have hpnr : pn ≤ room := by omega
      refine sd_set (K := K) (d := .int ((room / pn : Nat) : Int)) f3.ok (ED.to (ed_fdiv (i := room) (j := u.pane) ⟨by omega, by omega⟩ (ed_varI rfl) (ed_ixT (ds := dWinL u) (d := .int u.pane) rfl (ed_var rfl hv6) ed_int)) (by rw [hpe]; rfl)) fun v7 H4 e4 hv7 => ?_
      cases dp_int hv7
      dsimp only
      have B4 := B3.up e4
      have hv64 := Dp.mono hv6 (hide_ex e4)
      have f4 := f3.gex e4
      have h14 := Dp.mono h1 ((f1.comp f2).comp f4).vis
      obtain ⟨d', rfl⟩ : ∃ y, d = y + 1 := ⟨d - 1, by omega⟩
      have hdiv : 1 ≤ room / pn := (Nat.le_div_iff_mul_le hpn0).mpr (by omega)
      have hdiv2 : room / pn ≤ room := Nat.div_le_self _ _
      have hmul : pn * (room / pn) ≤ room := Nat.mul_div_le _ _
      have hpn60 : pn ≤ 60 := by omega
      have mv : ∀ {M' : List Addr} {σ : L2.St} {H' : Hp}, σ[6]? = some (some v6) → σ[2]? = some (some (.int (mk : Int))) → Dp K (hide M' H') v6 (dWin u) → ED K M' (tOp (rIxT K) (tOp (rIxT K) (tVar 6) (tC (.int 5))) (tVar 2)) σ H' (.int (mk' : Int)) := fun e1 e2 h => ed_ixT (ds := u.moves.map dMv) (d := dMv (some mk')) (atI_nat' (by rw [List.getElem?_map, ho]; rfl)) (ed_ixT (ds := dWinL u) (d := .tuple (u.moves.map dMv)) rfl (ed_var e1 h) ed_int) (ed_varI e2)
      refine sb_set f4.ok B4 (T := tyEx (fun subs : List Pl => subs.length = pn ∧ ∀ p ∈ subs, WM.PlanOk ws p mk' d' ∧ wid p ≤ room / pn) (fun subs => dat K (.list (subs.map dPlan)))) ?_ fun v8 H5 f5 B5 ⟨subs, ⟨hsl, hsub⟩, hv8⟩ => ?_
      · refine (eb_lc (K := K) (src := List.range pn) (f := fun _ => tyEx (fun p : Pl => WM.PlanOk ws p mk' d' ∧ wid p ≤ room / pn) (fun p => dat K (dPlan p))) hbM (fun H5 f5 => ei_r1 (K := K) (by omega) (ea_one ((ed_ixT (ds := dWinL u) (d := .int u.pane) rfl (ed_var rfl (Dp.mono hv64 f5.vis)) ed_int).to (by rw [hpe])))) (by simp; omega) (fun _ => rfl) fun M' H' x k ex hb' hk hx => ?_).wk ?_
        · refine eb_call (R := R_law_plan K (d' + 1)) hb' rfl (eba_cons (eb_var rfl (Dp.mono h14 ex)) (eba_cons (eb_d fun H6 f6 => mv rfl rfl ((hv64.mono ex).mono f6.vis)) (eba_cons (eb_d fun H6 f6 => (ed_sub (K := K) (i := ((d' + 1 : Nat) : Int)) (j := 1) (ed_varI rfl) ed_int).to (by congr 1; omega)) (eb_one (eb_varI rfl))))) ⟨m, n, st, ws, mk', room / pn, rfl, hws, hnd, hwl, hm, hmk', hdiv, by omega, rfl⟩
        · rintro v H' ⟨a, xs, e, hs, hx⟩
          obtain ⟨ys, g1, g2, g3⟩ := allT_ex hx
          exact ⟨ys, ⟨by rw [g1]; simp, g2⟩, by rw [e]; exact .lst hs g3⟩
      · dsimp only
        refine sd_ret (K := K) (d := dPlan (.look u.name subs)) f5.ok ((ed_tup (ds := [.str u.name, .list (subs.map dPlan)]) (by simp) (ea_cons (ed_ixT (ds := dWinL u) (d := .str u.name) rfl (ed_var rfl (Dp.mono hv64 f5.vis)) ed_int) (ea_one (ed_var rfl hv8)))).to (by rw [dPlan_look])) fun v H6 e6 h => hq v H6 ((((f1.comp f2).comp f4).comp f5).gex e6) (B5.up e6) ⟨_, ⟨.look (named_of hnd hu) ho (by rw [hsl, hpe]) fun p hp => (hsub p hp).1, ?_⟩, h⟩
        rw [wid_look]
        have := wid_sum fun p hp => (hsub p hp).2
        rw [hsl] at this
        omega
end
end WL
end
section
set_option Elab.async false
set_option linter.all false
set_option maxRecDepth 100000
set_option maxHeartbeats 4000000
/-! LayK: sorted, of tuples of ints of any length. -/
namespace WL
open PySem PySem.Spec PyProof.Rows L2 Evl HeadW
theorem reads_ints {h : Heap} : ∀ {ks : List Int} {us : List Value}, Vals (ks.map V.int) us → ReadsAll h us (ks.map PyData.int) []
  | [], _, .nil => .nil
  | k :: ks, _, .cons r t => by
    obtain ⟨tk, rfl⟩ := r
    exact ReadsAll.cons (as := []) (bs := []) (.int k tk) (reads_ints t)
theorem alike_ints : ∀ (a b : List Int), PySem.W.alikeAll (a.map PyData.int) (b.map PyData.int) = true
  | [], _ => by simp [PySem.W.alikeAll]
  | _ :: _, [] => by simp [PySem.W.alikeAll]
  | x :: a, y :: b => by
    simp only [List.map_cons, PySem.W.alikeAll, PySem.W.alike, Bool.true_and]
    exact alike_ints a b
theorem toks_ints : ∀ (a : List Int), PySem.W.keyToksAll (a.map PyData.int) = (a.flatMap fun x => [Sum.inl 1, Sum.inl x]) ++ [.inl 0]
  | [] => rfl
  | x :: a => by
    rw [List.map_cons, PySem.W.keyToksAll, toks_ints a]
    rfl
theorem flat_app (p s : List Int) : ((p ++ s).flatMap fun x => [Sum.inl (1 : Int), Sum.inl x]) = ((p.flatMap fun x => [Sum.inl 1, Sum.inl x]) ++ (s.flatMap fun x => [Sum.inl 1, Sum.inl x]) : List (Int ⊕ List Nat)) := List.flatMap_append
theorem llt_toks {a b : List Int} (h : WM.LLt a b) : PyProof.Rows.lexLt PyProof.Rows.itemOrd (PySem.W.keyToks (dV a)) (PySem.W.keyToks (dV b)) = true := by
  obtain ⟨p, x, y, s, t, rfl, rfl, hlt⟩ := h
  show PyProof.Rows.lexLt PyProof.Rows.itemOrd (PySem.W.keyToksAll _) (PySem.W.keyToksAll _) = true
  rw [toks_ints, toks_ints, flat_app, flat_app, List.append_assoc, List.append_assoc, PySem.W.lex_pre]
  show PyProof.Rows.lexLt PyProof.Rows.itemOrd (Sum.inl 1 :: Sum.inl x :: _) (Sum.inl 1 :: Sum.inl y :: _) = true
  rw [PyProof.Rows.lex_cons, PyProof.Rows.lex_cons]
  have h1 : PyProof.Rows.itemOrd.blt (Sum.inl (1 : Int)) (Sum.inl 1) = false := PyProof.Rows.itemOrd.irrefl _
  have h2 : PyProof.Rows.itemOrd.blt (Sum.inl x) (Sum.inl y) = true := by
    show decide (x < y) = true
    simpa using hlt
  rw [h1, h2]
  rfl
/-- an item and its value -/
abbrev encV (p : Addr × List Int) : PyData := dV p.2
theorem sort_perm (L : List (Addr × List Int)) : (L.mergeSort (PySem.W.dataLe false encV)).Perm L := List.mergeSort_perm _ _
theorem sort_pair (L : List (Addr × List Int)) : (L.mergeSort (PySem.W.dataLe false encV)).Pairwise fun q r => ¬ WM.LLt r.2 q.2 := by
  have T := PySem.W.sortLe_total (PyProof.Rows.listOrd PyProof.Rows.itemOrd) false fun b : Addr × List Int => PySem.W.keyToks (encV b)
  have := List.pairwise_mergeSort (le := PySem.W.dataLe false encV) (fun a b c h1 h2 => T.trans a b c h1 h2) (fun a b => by
    rcases T.total a b with h | h
    · rw [show PySem.W.dataLe false encV a b = true from h]; rfl
    · rw [show PySem.W.dataLe false encV b a = true from h, Bool.or_true]) L
  refine this.imp fun {a b} h hl => ?_
  have h2 := llt_toks hl
  have h3 : (!(PyProof.Rows.lexLt PyProof.Rows.itemOrd (PySem.W.keyToks (dV b.2)) (PySem.W.keyToks (dV a.2)))) = true := h
  rw [h2] at h3
  cases h3
section
variable {X : Cx} {pins : List (Addr × Obj)} {σ : L2.St} {H : Hp} {s : Shared}
theorem each_refs {R : Value → Addr × List Int → Prop} : ∀ {L : List (Addr × List Int)}, (∀ p ∈ L, R (.ref p.1) p) → PySem.W.EachIs R (L.map fun p => Value.ref p.1) L
  | [], _ => .nil
  | p :: L, h => .cons (h p (by simp)) (each_refs fun q hq => h q (by simp [hq]))
theorem refs_each : ∀ {out : List Value} {L : List (Addr × List Int)}, PySem.W.EachIs (fun v b => v = Value.ref b.1) out L → out = L.map fun p => Value.ref p.1
  | _, _, .nil => rfl
  | _, _, .cons h t => by
    rw [List.map_cons, ← refs_each t, h]
theorem vals_refs : ∀ (L : List (Addr × List Int)), Vals (L.map fun p => V.ref p.1) (L.map fun p => Value.ref p.1)
  | [] => .nil
  | _ :: L => .cons rfl (vals_refs L)
/-- a new list of tuples of ints, sorted -/
theorem sortV_ok {A : Around} {E : Value → Shared → Prop} {L : List (Addr × List Int)} {Q : VK} (I : Inv X pins σ H s) (hk : ∀ p ∈ L, SqT X.K H p.1 (p.2.map V.int)) (hl : L.length ≤ 10000) (hne : 2 ≤ L.length → ∀ p ∈ L, p.2 ≠ []) (hu : A.units + 10 < cLine)
    (q : ∀ (L' : List (Addr × List Int)) (p : Addr), L'.Perm L → (L'.Pairwise fun q r => ¬ WM.LLt r.2 q.2) → H p = none → Q (.ref p) (upd H p (.lst (L'.map fun q => V.ref q.1)))) :
    wpAny (model X.prog X.w) A (call (.builtin "list.sort") [.ref s.heap.objs.size]) (fun _ s2 => EP X pins σ Q (.ref s.heap.objs.size) s2) E { s with heap := s.heap.push (seqObj "list" (L.map fun p => Value.ref p.1).toArray 0) } := by
  have hoL : (s.heap.push (seqObj "list" (L.map fun p => Value.ref p.1).toArray 0)).get? s.heap.objs.size = some (seqObj "list" (L.map fun p => Value.ref p.1).toArray 0) := Heap.get?_push_size _ rfl
  have hz : L.length ≤ sizeLine := by rw [sizeLine_eq]; omega
  -- what the list is afterwards
  have fin : ∀ (L' : List (Addr × List Int)), L'.Perm L → (L'.Pairwise fun q r => ¬ WM.LLt r.2 q.2) → EP X pins σ Q (.ref s.heap.objs.size) { s with heap := sortedHeap (s.heap.push (seqObj "list" (L.map fun p => Value.ref p.1).toArray 0)) s.heap.objs.size (L.map fun p => Value.ref p.1) (L'.map fun p => Value.ref p.1).toArray } := fun L' hp hs => by
    obtain ⟨ep, he⟩ := PyProof.Rows.sortedHeap_at (vs := L.map fun p => Value.ref p.1) (out := (L'.map fun p => Value.ref p.1).toArray) hoL
    have hyl : (L'.map fun p => V.ref p.1).length ≤ sizeLine := by
      rw [List.length_map, hp.length_eq]
      exact hz
    refine ⟨.ref s.heap.objs.size, upd H s.heap.objs.size (.lst (L'.map fun p => V.ref p.1)), I.laid (t' := s.toks) (fun b o e => ?_) (Nat.le_refl _) (show ObjOk X.prog X.w _ _ _ (.lst (L'.map fun p => V.ref p.1)) from ⟨hyl, _, ep, vals_refs L', he⟩), rfl, q L' _ hp hs (I.hok.fresh (Nat.le_refl _))⟩
    have hb := Heap.lt_size e
    rw [PyProof.Rows.sortedHeap_old (Nat.ne_of_lt hb) (by rw [PyProof.Rows.size_push']; exact Nat.lt_succ_of_lt hb)]
    exact Heap.get?_push_of_some _ e
  by_cases h2 : 2 ≤ L.length
  · refine PySem.W.list_sort_data (s := { s with heap := s.heap.push (seqObj "list" (L.map fun p => Value.ref p.1).toArray 0) }) (enc := encV) (R := fun v b => v = Value.ref b.1) (bs := L) hoL (each_refs fun p hp => rfl) (each_refs fun p hp => ?_) ?_ ?_ hz ?_ fun out ho eo => ?_
    · obtain ⟨its, r, ⟨o, ho, hc, n, hd⟩, _⟩ := I.tuple (hk p hp)
      refine ⟨[], .tuple (Heap.get?_push_of_some _ ho) hc hd ?_, by simp⟩
      have := reads_ints (h := s.heap.push (seqObj "list" (L.map fun p => Value.ref p.1).toArray 0)) r
      simpa using this
    · intro d hd d' hd'
      obtain ⟨p, _, rfl⟩ := List.mem_map.mp hd
      obtain ⟨p', _, rfl⟩ := List.mem_map.mp hd'
      exact alike_ints p.2 p'.2
    · refine .inl fun d hd => ?_
      obtain ⟨p, hp, rfl⟩ := List.mem_map.mp hd
      have := hne h2 p hp
      cases e : p.2 with
      | nil => exact absurd e this
      | cons x r => exact ⟨.int x, r.map .int, by show PyData.tuple (p.2.map .int) = _; rw [e]; rfl⟩
    · intro p hp
      have := (layV 0 p.2).2
      show A.units + 1 + (dV p.2).depth < cLine
      omega
    · rw [refs_each eo]
      exact fin _ (sort_perm L) (sort_pair L)
  · refine wpAny_call_entry PyProof.Rows.slot_list_sort ⟨_, hoL, rfl⟩ PyProof.Rows.entry_list_sort (SrtO.list_sort_ord (s := { s with heap := s.heap.push (seqObj "list" (L.map fun p => Value.ref p.1).toArray 0) }) SrtO.swo_int hoL (by rw [List.length_map]; exact hz) (fun h => absurd (by rw [List.length_map] at h; exact h) h2) fun out h1 h3 => ⟨.none, rfl, ?_⟩) (PyProof.Rows.args_list_sort _)
    have e : out = L.map fun p => Value.ref p.1 := by
      have hp := h3.perm
      clear h1 h3 fin hoL
      match L, h2, hp with
      | [], _, hp => exact hp.eq_nil
      | [p], _, hp => exact List.perm_singleton.mp hp
      | _ :: _ :: _, h, _ => exact absurd (by simp) h
    rw [e]
    exact fin L (List.Perm.refl _) (by
      match L, h2 with
      | [], _ => exact .nil
      | [p], _ => exact List.pairwise_singleton _ _
      | _ :: _ :: _, h => exact absurd (by simp) h)
/-- sorted(xs), xs a list of tuples of ints -/
def rSortedV (K : PySem.W.Frag) : List V → Hp → VK → Prop := fun xs H Q => ∃ (a : Addr) (L : List (Addr × List Int)), xs = [.ref a] ∧ SqL K H a (L.map fun p => V.ref p.1) ∧ (∀ p ∈ L, SqT K H p.1 (p.2.map V.int)) ∧ L.length ≤ 10000 ∧ (2 ≤ L.length → ∀ p ∈ L, p.2 ≠ []) ∧
  ∀ (L' : List (Addr × List Int)) (p : Addr), L'.Perm L → (L'.Pairwise fun q r => ¬ WM.LLt r.2 q.2) → H p = none → Q (.ref p) (upd H p (.lst (L'.map fun q => V.ref q.1)))
theorem vals_refs_eq : ∀ {L : List (Addr × List Int)} {us : List Value}, Vals (L.map fun p => V.ref p.1) us → us = L.map fun p => Value.ref p.1
  | [], _, .nil => rfl
  | p :: L, _, .cons r t => by
    cases r
    rw [List.map_cons, ← vals_refs_eq t]
theorem cr_sortedTL (hcalm : X.calm = true) (hu : X.A.units + 64 < cLine) : CallR X (.builtin "sorted") (rSortedV X.K) := by
  intro pins s σ H xs us Q I r ⟨a, L, ex, hL, hk, hl, hne, q⟩
  subst ex
  obtain ⟨u, rfl, rx⟩ := vals1 r
  cases rx
  obtain ⟨its, rv, pl, hz⟩ := I.list hL
  have ei := vals_refs_eq rv
  subst ei
  refine sorted_by (Gd := fun vs s1 => vs = (L.map fun p => Value.ref p.1) ∧ Inv X pins σ H s1) (PyProof.Rows.args_sorted1 _) (fun R hR => ?_) (fun us s1 g => by rw [g.1, List.length_map, sizeLine_eq]; omega) (fun us s1 g => by
    obtain ⟨rfl, J⟩ := g
    exact sortV_ok J hk hl hne (by show X.A.units + 1 + 10 < cLine; omega) q)
  refine PyProof.Rows.collect_list pl.isList (hR _ _ ⟨rfl, ?_⟩) (by rw [List.length_map, sizeLine_eq]; omega)
  refine I.kept (t' := s.toks) fun b ob e => ?_
  have hb := Heap.lt_size e
  exact (Heap.get?_update_other _ _ (Ne.symm (Nat.ne_of_lt hb))).trans (Heap.get?_push_of_some _ e)
/-- sorted(d), the keys of a dict being tuples of ints -/
def rSortedDV : List V → Hp → VK → Prop := fun xs H Q => ∃ (a : Addr) (kvs : List (List Key × V)) (ks : List (List Int)), xs = [.ref a] ∧ Rd H a (.dT kvs) ∧ kvs.map (·.1) = ks.map (fun k => k.map Sum.inl) ∧ ks.length ≤ 10000 ∧ (2 ≤ ks.length → ∀ k ∈ ks, k ≠ []) ∧
  ∀ (L' : List (Addr × List Int)) (p : Addr), (∀ q ∈ L', H q.1 = some (.tup (q.2.map V.int))) → (L'.map Prod.snd).Perm ks → (L'.Pairwise fun q r => ¬ WM.LLt r.2 q.2) → H p = none → Q (.ref p) (upd H p (.lst (L'.map fun q => V.ref q.1)))
theorem keyed {H : Hp} : ∀ {kvs : List (List Key × V)} {ks : List (List Int)} {bs : List Addr}, IsKeys H kvs bs → kvs.map (·.1) = ks.map (fun k => k.map Sum.inl) → ∃ L : List (Addr × List Int), bs = L.map Prod.fst ∧ ks = L.map Prod.snd ∧ ∀ p ∈ L, H p.1 = some (.tup (p.2.map V.int))
  | [], ks, _, .nil, h => by
    have : ks = [] := by
      cases ks with
      | nil => rfl
      | cons a b => cases h
    subst this
    exact ⟨[], rfl, rfl, by simp⟩
  | kv :: kvs, ks, _, .cons (b := b) h1 h2, h => by
    cases ks with
    | nil => cases h
    | cons k ks =>
      rw [List.map_cons, List.map_cons] at h
      injection h with e1 e2
      obtain ⟨L, rfl, rfl, h3⟩ := keyed h2 e2
      refine ⟨(b, k) :: L, rfl, rfl, fun p hp => ?_⟩
      rcases List.mem_cons.mp hp with e | e
      · subst e
        rw [h1, e1, List.map_map]
        rfl
      · exact h3 p e
theorem sqt_of_tup {K : PySem.W.Frag} {a : Addr} {xs : List V} (h : H a = some (.tup xs)) : SqT K H a xs := st_of h
theorem call_sortedDT (hcalm : X.calm = true) (hu : X.A.units + 64 < cLine) : CallR X (.builtin "sorted") rSortedDV := by
  intro pins s σ H xs us Q I r ⟨a, kvs, ks, ex, hd, hks, hl, hne, q⟩
  subst ex
  obtain ⟨u, rfl, rx⟩ := vals1 r
  cases rx
  obtain ⟨z, hs, kt, pr, o, es, ep, ho, hx, hdt, he, hn⟩ := (show ObjOk X.prog X.w H s.heap a (.dT kvs) from hd.ok I.hok)
  obtain ⟨L, hL1, rfl, hL3⟩ := keyed (isKeys_of pr) hks
  have hlen : kvs.length = L.length := by simpa using congrArg List.length hks
  have l1 : es.size = kt.length := size_of_entries he
  have l2 : kvs.length = kt.length := Paired.length pr
  refine sorted_by (Gd := fun vs s1 => vs = (L.map fun p => Value.ref p.1) ∧ Inv X pins σ H s1) (PyProof.Rows.args_sorted1 _) (fun R hR => ?_) (fun us s1 g => by rw [g.1, List.length_map, ← hlen]; exact z) (fun us s1 g => by
    obtain ⟨rfl, J⟩ := g
    refine sortV_ok J (fun p hp => st_of (hL3 p hp)) (by simpa using hl) (fun h2 p hp => hne (by simpa using h2) _ (List.mem_map.mpr ⟨p, hp, rfl⟩)) (by show X.A.units + 1 + 10 < cLine; omega) fun L' p hp hs hn => q L' p (fun q hq => hL3 q (hp.mem_iff.mp hq)) (hp.map _) hs hn)
  refine PySem.W.kdu_collect (A := X.A.in1) (kdl_raw hs hx hdt) (I.ok.hd hcalm) ho (by omega) fun h' tk acc hk hacc => hR _ _ ⟨?_, I.kept hk⟩
  have hLk : L.length = kt.length := by omega
  refine List.ext_getElem (by rw [Array.length_toList, List.length_map, hacc.1]; omega) fun j h1 h2 => ?_
  have hjk : j < kt.length := by rw [List.length_map] at h2; omega
  have hv : acc[j]? = some acc.toList[j] := by rw [← Array.getElem?_toList]; exact List.getElem?_eq_getElem h1
  obtain ⟨en, g1, g2⟩ := hacc.2 j _ hv
  have g3 := entry_at he j
  rw [g1, List.getElem?_eq_getElem hjk] at g3
  have g4 : en = entryOfKey (tupleKind (mixKind X.prog X.w)) kt[j] := Option.some.inj g3
  have g5 : kt[j].2.1 = (L[j]'(by omega)).1 := by
    have := congrArg (fun l : List Addr => l[j]?) hL1
    simp only [List.getElem?_map, List.getElem?_eq_getElem hjk, List.getElem?_eq_getElem (show j < L.length by omega), Option.map_some] at this
    exact Option.some.inj this
  rw [g2, g4, List.getElem_map]
  exact congrArg Value.ref g5
theorem perm_lift {α β : Type} {f : α → β} {l m : List β} (h : l.Perm m) : ∀ L : List α, m = L.map f → ∃ L1 : List α, l = L1.map f ∧ L1.Perm L := by
  induction h with
  | nil => exact fun L e => ⟨L, e, List.Perm.refl _⟩
  | cons x h ih =>
    intro L e
    cases L with
    | nil => cases e
    | cons a L =>
      rw [List.map_cons] at e
      injection e with e1 e2
      obtain ⟨L1, rfl, h1⟩ := ih L e2
      exact ⟨a :: L1, by rw [e1]; rfl, h1.cons a⟩
  | swap x y l =>
    intro L e
    match L, e with
    | a :: b :: L, e =>
      rw [List.map_cons, List.map_cons] at e
      injection e with e1 e2
      injection e2 with e3 e4
      subst e1; subst e3; subst e4
      exact ⟨b :: a :: L, rfl, List.Perm.swap _ _ _⟩
  | trans h1 h2 ih1 ih2 =>
    intro L e
    obtain ⟨L1, e1, p1⟩ := ih2 L e
    obtain ⟨L2, e2, p2⟩ := ih1 L1 e1
    exact ⟨L2, e2, p2.trans p1⟩
/-- sorted(s), s a set of tuples of ints -/
def rSortedSV (K : PySem.W.Frag) (P : Program) (w : World) : List V → Hp → VK → Prop := fun xs H Q => ∃ (a : Addr) (L : List (Addr × List Int)), xs = [.ref a] ∧ H a = some (SetTO P w a L) ∧ (∀ p ∈ L, SqT K H p.1 (p.2.map V.int)) ∧ ((∀ p ∈ L, p.2 ≠ []) ∨ ∀ p ∈ L, p.2 = []) ∧
  ∀ (L' : List (Addr × List Int)) (p : Addr), L'.Perm L → (L'.map Prod.snd).Nodup → (L'.Pairwise fun q r => ¬ WM.LLt r.2 q.2) → H p = none → Q (.ref p) (upd H p (.lst (L'.map fun q => V.ref q.1)))
theorem cr_sortedST (hcalm : X.calm = true) (hu : X.A.units + 64 < cLine) : CallR X (.builtin "sorted") (rSortedSV X.K X.prog X.w) := by
  intro pins s σ H xs us Q I r ⟨a, L, ex, ha, hk, hne, q⟩
  subst ex
  obtain ⟨u, rfl, rx⟩ := vals1 r
  cases rx
  obtain ⟨es, ep, t, R⟩ := SetT0.full (I.hok a _ ha).1 fun p hp => I.isT (hk p hp)
  obtain ⟨o, ho, hex, hd⟩ := R.ob
  have hfew := R.few
  have hsz := R.size
  have hne : 2 ≤ L.length → ∀ p ∈ L, p.2 ≠ [] := fun h2 => hne.elim id fun h => by
    have := WM.nd_one R.nd fun x hx => by
      obtain ⟨p, hp, rfl⟩ := List.mem_map.mp hx
      exact h p hp
    rw [List.length_map] at this
    omega
  refine sorted_by (Gd := fun vs s1 => ∃ L1 : List (Addr × List Int), vs = (L1.map fun p => Value.ref p.1) ∧ L1.Perm L ∧ Inv X pins σ H s1) (PyProof.Rows.args_sorted1 _) (fun R' hR => ?_) (fun us s1 ⟨L1, e1, p1, _⟩ => by rw [e1, List.length_map, p1.length_eq, sizeLine_eq]; omega) (fun us s1 ⟨L1, e1, p1, J⟩ => by
    subst e1
    exact sortV_ok J (fun p hp => hk p (p1.mem_iff.mp hp)) (by rw [p1.length_eq]; omega) (fun h2 p hp => hne (by rw [← p1.length_eq]; exact h2) p (p1.mem_iff.mp hp)) (by show X.A.units + 1 + 10 < cLine; omega) fun L' p hp hs hn => q L' p (hp.trans p1) (((hp.trans p1).map _).nodup_iff.mpr R.nd) hs hn)
  refine collect_set (A := X.A.in1) (I.ok.hd hcalm) ⟨o, ho, hex.1, hd⟩ R.fits (by unfold scanBound; omega) R.tab.ris R.led fun s1 vs k1 hz g1 o1 pm => ?_
  have hes : es.toList.map (·.2) = L.map fun q => Value.ref q.1 := by
    simp only [R.rows, rowsOf, List.map_map]
    rfl
  obtain ⟨L1, e1, p1⟩ := perm_lift pm L hes
  refine hR vs s1 ⟨L1, e1, p1, ?_⟩
  have J : Inv X pins σ H { s with heap := s1.heap, gens := s1.gens, drawn := s1.drawn, toks := s1.toks } := Inv.call (ch := []) I (Un.kept k1) (I.hok.kept k1) (g1 ▸ I.bare) fun _ z => by cases z
  have e : { s with heap := s1.heap, gens := s1.gens, drawn := s1.drawn, toks := s1.toks } = s1 := by
    obtain ⟨⟩ := s1
    obtain ⟨⟩ := s
    cases o1
    rfl
  exact e ▸ J
end
end WL
end
section
set_option Elab.async false
set_option linter.all false
set_option maxRecDepth 100000
set_option maxHeartbeats 4000000
/-! LayL: reading a dict by a tuple, wherever the tuple stands; a display with one tuple key. -/
namespace WL
open PySem PySem.Spec PyProof.Rows L2 Evl HeadW
section
variable {X : Cx} {pins : List (Addr × Obj)} {σ : L2.St} {H : Hp} {s : Shared} {A : Around} {E : Value → Shared → Prop}
theorem keyS (I : Inv X pins σ H s) {b : Addr} {ks : List Key} (h : SqT X.K H b (ks.map kV)) : (tupleKind (mixKind X.prog X.w)).is s.heap ks b := by
  obtain ⟨its, rv, ⟨ob, g1, g2, m, g3⟩, _⟩ := I.tuple h
  have e := items_are (P := X.prog) (w := X.w) rv
  refine ⟨ob, _, m, g1, g2, g3, ?_⟩
  simpa using e
theorem notInS {Q : Value → Shared → Prop} {a b : Addr} {kvs : List (List Key × V)} {k : List Key} (hu : A.units + 1 < cLine) (I : Inv X pins σ H s) (hd : Rd H a (.dT kvs)) (hk : SqT X.K H b (k.map kV)) (q : ∀ s', Inv X pins σ H s' → Q (.bool (!(valV kvs k).isSome)) s') :
    wpAny (model X.prog X.w) A (compareOp .NotIn (.ref b) (.ref a)) Q E s := by
  obtain ⟨z, ns, xs, rel, dd⟩ := dt_rd I.hok hd
  have same := (rel.val k).isSome_eq
  rw [Option.isSome_map] at same
  refine wpAny_notIn_heap (tupleKind_room_in1 hu) (keyS I hk) ns dd ?_
  rw [← same]
  exact q _ (I.tok _)
theorem getS {Q : Value → Shared → Prop} {a b : Addr} {kvs : List (List Key × V)} {k : List Key} {v : V} (hu : A.units + 1 < cLine) (I : Inv X pins σ H s) (hd : Rd H a (.dT kvs)) (hk : SqT X.K H b (k.map kV)) (hv : valV kvs k = some v) (q : ∀ u s', Inv X pins σ H s' → RelV v u → Q u s') :
    wpAny (model X.prog X.w) A (getItem (.ref a) (.ref b)) Q E s := by
  obtain ⟨z, ns, xs, rel, dd⟩ := dt_rd I.hok hd
  obtain ⟨u, e1, ru⟩ := RelO.some_of (v := v) (hv ▸ rel.val k)
  obtain ⟨p, e2, e3⟩ := Option.map_eq_some_iff.mp e1
  refine wpAny_getItem_heap (tupleKind_room_in1 hu) (keyS I hk) dd e2 ?_
  rw [e3]
  exact q u _ (I.tok _) ru
/-- d[y], y not in d, y a tuple -/
def tDGetS (K : PySem.W.Frag) (td ty : TE) : TE := fun σ H Q => td σ H fun x H1 => ty σ H1 fun y H2 => ∃ a b kvs k v, x = .ref a ∧ y = .ref b ∧ Rd H2 a (.dT kvs) ∧ SqT K H2 b (k.map kV) ∧ valV kvs k = some v ∧ Q v H2
def tDNotInS (K : PySem.W.Frag) (ty td : TE) : TE := fun σ H Q => ty σ H fun y H1 => td σ H1 fun x H2 => ∃ a b kvs k, x = .ref a ∧ y = .ref b ∧ Rd H2 a (.dT kvs) ∧ SqT K H2 b (k.map kV) ∧ Q (.bl (!(valV kvs k).isSome)) H2
end
section
variable {X : Cx} {o i e value : Expr} {pos pos' tpos : Pos} {td ty tv : TE}
theorem pe_dgetS (hu : X.A.units + 1 < cLine) (ho : PE X o td) (hi : PE X i ty) (hs : NoSl i) : PE X (.Subscript o i pos) (tDGetS X.K td ty) := ⟨fun pins s σ H Q I h => by
  refine subD_of PySem.F.slot_dict_getitem.lookup hs (thn (ho.run pins s σ H _ I h) fun u s1 ⟨x, H1, I1, rx, q1⟩ => thn (hi.run pins s1 σ H1 _ I1 q1) fun iv s2 ⟨y, H2, I2, ry, a, b, kvs, k, v, ex, ey, hd, hk, hv, q2⟩ => ?_)
  subst ex ey
  cases rx
  cases ry
  obtain ⟨_, _, xs, _, dd⟩ := dt_rd I2.hok hd
  exact ⟨dd.typeIs, getS hu I2 hd hk hv fun w' s3 I3 rw' => ⟨v, H2, I3, rw', q2⟩⟩⟩
theorem pc_dnotinS (hu : X.A.units + 1 < cLine) (hi : PE X i ty) (ho : PE X o td) : PC X .NotIn i o (tDNotInS X.K ty td) := ⟨fun pins s σ H Q I h => by
  refine thn (hi.run pins s σ H _ I h) fun iv s1 ⟨y, H1, I1, ry, q1⟩ => thn (ho.run pins s1 σ H1 _ I1 q1) fun u s2 ⟨x, H2, I2, rx, a, b, kvs, k, ex, ey, hd, hk, q2⟩ => ?_
  subst ex ey
  cases rx
  cases ry
  exact notInS hu I2 hd hk fun s3 I3 => ⟨.bl _, H2, I3, rfl, q2⟩⟩
/-- {k: v}, k a tuple; the new dict stands empty while the two are made -/
def tDispT1 (tk tv : TE) : TE := fun σ H Q => ∀ p, H p = none → tk σ (upd H p (.dT [])) fun x H1 => tv σ H1 fun y H2 => H2 p = some (.dT []) ∧ ∃ (b : Addr) (k : List Key), x = .ref b ∧ H2 b = some (.tup (k.map kV)) ∧ Q (.ref p) (upd H2 p (.dT (putK [] k y)))
theorem pe_dispT1 {k : Expr} {tk tv : TE} (hu : X.A.units + 1 < cLine) (hk : PE X k tk) (hv : PE X value tv) : PE X (.Dict [some k] [value] pos) (tDispT1 tk tv) := ⟨fun pins s σ H Q I h => by
  have hn := I.hok.fresh (Nat.le_refl s.heap.objs.size)
  have I1 := I.laid (a := s.heap.objs.size) (o := .dT []) (h' := s.heap.push { cls := .type "dict", data := .dict #[] }) (t' := s.toks) (fun _ _ q => Heap.get?_push_of_some _ q) (Nat.le_refl _) (dt_empty s.heap I.big)
  rw [arm_eval_Dict, zip_pairTrees [some k] [value] X.env pos rfl rfl, dictDisplay_pairs _ (by simp [pairTrees]) (by simp [pairTrees])]
  refine wpAny_bind (wpAny_standAt (wpAny_bind ?_))
  unfold subDict
  refine wpAny_bind (wpAny_alloc (wpAny_bind (wpAny_holding ?_)))
  rw [if_pos (by simp [pairTrees])]
  have W : wpAny (model X.prog X.w) X.A (evalPairs (pairTrees [some k] [value] X.env pos)) (fun vs s3 => ∃ u u2 x y H2, vs = [(u, u2)] ∧ L2.Inv X pins σ H2 s3 ∧ RelV x u ∧ RelV y u2 ∧ H2 s.heap.objs.size = some (.dT []) ∧ ∃ (b : Addr) (k : List Key), x = .ref b ∧ H2 b = some (.tup (k.map kV)) ∧ Q (.ref s.heap.objs.size) (upd H2 s.heap.objs.size (.dT (putK [] k y)))) X.xe { s with heap := s.heap.push { cls := .type "dict", data := .dict #[] } } :=
    pairTrees_cons_walk (thn (hk.run pins _ σ _ _ I1 (h _ hn)) fun u s1 ⟨x, H1, J1, rx, q1⟩ => thn (hv.run pins s1 σ H1 _ J1 q1) fun u2 s2 ⟨y, H2, J2, ry, q2⟩ => pairTrees_nil_walk ⟨u, u2, x, y, H2, rfl, J2, rx, ry, q2⟩)
  refine wpAny_bind (wpAny_mono W (fun vs s3 ⟨u, u2, x, y, H2, ev, J2, rx, ry, e, b, ks, ex, eb, q2⟩ => ?_) fun _ _ z => z)
  subst ev ex
  cases rx
  obtain ⟨z, ns, xs, rel, dd⟩ := dt_of J2.hok e
  refine wpAny_holding (wpAny_bind ?_)
  rw [List.forIn_cons]
  refine wpAny_bind (wpAny_bind ?_)
  refine wpAny_dictSet_heap (hsz := by rw [← Paired.length rel]; exact z) (show X.A.units < cLine by omega) (keyS J2 (st_of eb)) dd fun h' dd' hs => wpAny_pure ?_
  dsimp only
  rw [List.forIn_nil]
  refine wpAny_pure (wpAny_pure (wpAny_pure (wpAny_pure ?_)))
  have hz : (putK ([] : List (List Key × V)) ks y).length ≤ sizeLine := by have := length_putK ([] : List (List Key × V)) ks y; rw [sizeLine_eq]; simp at this; omega
  obtain ⟨q0, es, ep, hq0, g2, g3, g4, _, g5⟩ := dd'
  refine ⟨.ref s.heap.objs.size, upd H2 s.heap.objs.size (.dT (putK [] ks y)), d_write J2 (by rw [e]; exact True.intro) hs ⟨q0, hq0⟩ ⟨hz, ns, _, (rel.put ks eb ry).keeps fun c ys ec => ?_, q0, es, ep, hq0, g2, g3, g4, g5⟩, rfl, q2⟩
  exact (upd_ne (ne_of ec e fun z => by cases z)).trans ec⟩
end
end WL
end
section
set_option Elab.async false
set_option linter.all false
set_option maxRecDepth 100000
set_option maxHeartbeats 4000000
/-! D27: _law_members, _law_coset. -/
namespace WL
open PySem PySem.Spec PyProof.Rows L2 Evl HeadW
/-- no tuple is among what may change -/
def NT (M : List Addr) (H : Hp) : Prop := ∀ a ∈ M, ∀ xs, H a ≠ some (.tup xs)
theorem NT.keep {M : List Addr} {H H' : Hp} (h : NT M H) (hM : MOk M H) (k : ∀ a ∈ M, ∀ o, H a = some o → H' a = some o) : NT M H' := fun a ha xs e => by
  cases q : H a with
  | none => exact hM a ha q
  | some o =>
    rw [k a ha o q] at e
    injection e with e
    subst e
    exact h a ha xs q
theorem NT.vis {M : List Addr} {H : Hp} {a : Addr} {xs : List V} (h : NT M H) (e : H a = some (.tup xs)) : hide M H a = some (.tup xs) := by
  rw [hide_out fun z => h a z xs e]; exact e
/-- a promise that gives old tuples -/
def SpM (R : List Ty → Ty → Prop) : Sp := fun vs H Q _ => ∃ M Ts T, MOk M H ∧ NT M H ∧ AllT (hide M H) vs Ts ∧ R Ts T ∧ ∀ v H', Ex H H' → T.p v (hide M H') → Q v H'
theorem spM_len {R : List Ty → Ty → Prop} {n : Nat} (h : ∀ Ts T, R Ts T → Ts.length = n) : ∀ vs H Q E, SpM R vs H Q E → vs.length = n := fun vs H Q E ⟨M, Ts, T, _, _, h1, h2, _⟩ => by rw [h1.len]; exact h Ts T h2
abbrev encK (k : List Int) : List Key := k.map Sum.inl
theorem kv_encK (k : List Int) : (encK k).map kV = k.map V.int := by rw [List.map_map]; rfl
theorem encK_inj {a b : List Int} (h : encK a = encK b) : a = b := by
  induction a generalizing b with
  | nil => cases b with
    | nil => rfl
    | cons _ _ => cases h
  | cons x a ih => cases b with
    | nil => cases h
    | cons y b =>
      injection h with h1 h2
      injection h1 with h1
      rw [h1, ih h2]
def addK (ks : List (List Int)) (k : List Int) : List (List Int) := if k ∈ ks then ks else ks ++ [k]
theorem mem_addK {ks : List (List Int)} {k x : List Int} : x ∈ addK ks k ↔ x ∈ ks ∨ x = k := by
  unfold addK
  split
  · rename_i h
    exact ⟨.inl, fun z => z.elim id fun e => e ▸ h⟩
  · simp
theorem nodup_addK {ks : List (List Int)} {k : List Int} (h : ks.Nodup) : (addK ks k).Nodup := by
  unfold addK
  split
  · exact h
  · rename_i hn
    refine List.nodup_append.mpr ⟨h, by simp, fun a ha b hb e => ?_⟩
    rw [List.mem_singleton.mp hb] at e
    exact hn (e ▸ ha)
theorem keyIn {kvs : List (List Key × V)} {ks : List (List Int)} (h : kvs.map (·.1) = ks.map encK) (k : List Int) : (kvs.any fun kv => decide (kv.1 = encK k)) = decide (k ∈ ks) := by
  have e : (kvs.any fun kv => decide (kv.1 = encK k)) = ((kvs.map (·.1)).any fun q => decide (q = encK k)) := by rw [List.any_map]; rfl
  rw [e, h, List.any_map]
  by_cases hk : k ∈ ks
  · rw [decide_eq_true hk]
    exact List.any_eq_true.mpr ⟨k, hk, by simp⟩
  · rw [decide_eq_false hk]
    refine List.any_eq_false.mpr fun x hx z => ?_
    have : encK x = encK k := by simpa using z
    exact hk (encK_inj this ▸ hx)
theorem keySome {kvs : List (List Key × V)} {ks : List (List Int)} (h : kvs.map (·.1) = ks.map encK) (k : List Int) : (valV kvs (encK k)).isSome = decide (k ∈ ks) := by
  rw [← valV_any]
  exact keyIn h k
theorem putK_keys {kvs : List (List Key × V)} {ks : List (List Int)} (h : kvs.map (·.1) = ks.map encK) (k : List Int) (v : V) : (putK kvs (encK k) v).map (·.1) = (addK ks k).map encK := by
  unfold putK addK
  rw [keyIn h k]
  by_cases hk : k ∈ ks
  · rw [if_pos (decide_eq_true hk), if_pos hk, ← h, List.map_map]
    refine List.map_congr_left fun kv _ => ?_
    show (if kv.1 = encK k then (kv.1, v) else kv).1 = kv.1
    split <;> rfl
  · rw [if_neg (by simp [hk]), if_neg hk, List.map_append, List.map_append, h]
    rfl
section
variable {K : PySem.W.Frag} {M : List Addr} {σ : L2.St} {H H' : Hp} {te ta tb tv : TE} {T : Ty} {Ts : List Ty} {D : Ends} {g : TG} {i j : Nat} {ns : List Int}
theorem eg_callM {t : TA} {R : List Ty → Ty → Prop} {E : XK} (hN : NT M H) (hM0 : MOk M H) (h : EGA M t σ H Ts) (r : R Ts T) : EG M (tCall (SpM R) [] E t) σ H T := fun hM H1 e Q q =>
  h hM H1 e _ fun vs H2 e2 h2 => ⟨M, Ts, T, hM.ex (e.trans e2), hN.keep hM0 fun a _ o q => (e.trans e2) a o q, by rw [List.append_nil]; exact h2, r, fun v H3 e3 h3 => q v H3 (e2.trans e3) h3⟩
/-- k not in d, tuples -/
theorem et_notinT {x : V} {d : Addr} {kvs : List (List Key × V)} {ks : List (List Int)} {k : List Int} (hi : σ[i]? = some (some x)) (hx : Dp K (hide M H) x (dV k)) (hj : σ[j]? = some (some (.ref d))) (hd : H d = some (.dT kvs)) (h : kvs.map (·.1) = ks.map encK) :
    ET M (L2.tB (tDNotInS K (tVar i) (tVar j))) σ H (!decide (k ∈ ks)) := fun hM H1 e Q q => by
  obtain ⟨a, rfl, hs⟩ := dp_vec hx
  refine ⟨_, hi, _, hj, d, a, kvs, encK k, rfl, rfl, .inl (e d _ hd), by rw [kv_encK]; exact ex_t e (ex_t (hide_sub _ _) hs), _, rfl, ?_⟩
  rw [keySome h k]
  exact q H1 (Ex.refl _)
/-- d[tuple(..)] = v, the tuple being new -/
theorem s_dputT {d : Addr} {kvs : List (List Key × V)} {k : List Int} (hM : MOk M H) (hv : EG M tv σ H T) (hj : σ[j]? = some (some (.ref d))) (hd : H d = some (.dT kvs)) (hk : EG M te σ H (tyVP k)) (hz : kvs.length < 200000)
    (q : ∀ v H1, Ex H H1 → T.p v (hide M H1) → D.nx σ (upd H1 d (.dT (putK kvs (encK k) v)))) : sDPut (tVar j) te tv D σ H :=
  hv hM H (Ex.refl H) _ fun v H1 e1 h1 => ⟨.ref d, hj, hk hM H1 e1 _ fun y H2 e2 ⟨b, eb, hb⟩ => ⟨d, _, rfl, by
    rw [eb]
    exact DPut.t (e2 d _ (e1 d _ hd)) (by rw [kv_encK]; exact hide_sub _ _ _ _ hb) (sz_of' hz), q v H2 (e1.trans e2) (T.up (hide_ex e2) h1)⟩⟩
theorem keysT_all {H H2 : Hp} (hv : ∀ b xs, H b = some (.tup xs) → H2 b = some (.tup xs)) : ∀ {kvs : List (List Key × V)} {bs : List Addr} {ks : List (List Int)}, IsKeys H kvs bs → kvs.map (·.1) = ks.map encK → AllT H2 (bs.map V.ref) (ks.map fun k => dat K (dV k))
  | [], _, ks, .nil, h => by
    cases ks with
    | nil => exact .nil
    | cons _ _ => cases h
  | kv :: kvs, _, ks, .cons h1 h2, h => by
    cases ks with
    | nil => cases h
    | cons k ks =>
      rw [List.map_cons, List.map_cons] at h
      injection h with e1 e2
      rw [e1, kv_encK] at h1
      exact .cons (vec_dp (st_of (hv _ _ h1))) (keysT_all hv h2 e2)
/-- list(d), d a dict with tuples of ints for keys -/
theorem eg_keysT {d : Addr} {kvs : List (List Key × V)} {ks : List (List Int)} (hN : NT M H) (hM0 : MOk M H) (hj : σ[j]? = some (some (.ref d))) (hd : H d = some (.dT kvs)) (h : kvs.map (·.1) = ks.map encK) :
    EG M (tCB (fun xs H Q => ∃ d kvs, xs = [V.ref d] ∧ Rd H d (.dT kvs) ∧ ∀ p bs, H p = none → IsKeys H kvs bs → Q (.ref p) (upd H p (.lst (bs.map V.ref)))) (tCons (tVar j) tNil)) σ H (tyL K (ks.map fun k => dat K (dV k))) := fun hM H1 e Q q =>
  ⟨_, hj, d, kvs, rfl, .inl (e d _ hd), fun p bs hp hb => q _ _ (Ex.new hp) (by
    have hpM := (hM.ex e).new hp
    have hN1 : NT M H1 := hN.keep hM0 fun a _ o z => e a o z
    exact ⟨p, bs.map V.ref, rfl, sq_of (by rw [hide_out hpM]; exact upd_same), keysT_all (fun b xs hb => new_ex hp _ _ (hN1.vis hb)) hb h⟩)⟩
/-- sorted(d) -/
theorem eg_sortedT {d : Addr} {kvs : List (List Key × V)} {ks : List (List Int)} (hN : NT M H) (hM0 : MOk M H) (hj : σ[j]? = some (some (.ref d))) (hd : H d = some (.dT kvs)) (h : kvs.map (·.1) = ks.map encK) (hl : ks.length ≤ 10000) (hne : 2 ≤ ks.length → ∀ k ∈ ks, k ≠ []) :
    EG M (tCB rSortedDV (tCons (tVar j) tNil)) σ H (tyEx (fun l : List (List Int) => l.Perm ks ∧ l.Pairwise fun a b => ¬ WM.LLt b a) (fun l => dat K (dL l))) := fun hM H1 e Q q =>
  ⟨_, hj, d, kvs, ks, rfl, .inl (e d _ hd), h, hl, hne, fun L' p hL hp hs hn => q _ _ (Ex.new hn) (by
    have hpM := (hM.ex e).new hn
    have hN1 : NT M H1 := hN.keep hM0 fun a _ o z => e a o z
    refine ⟨L'.map Prod.snd, ⟨hp, List.pairwise_map.mpr hs⟩, .lst (sq_of (by rw [hide_out hpM]; exact upd_same)) ?_⟩
    have : ∀ L : List (Addr × List Int), (∀ q ∈ L, H1 q.1 = some (.tup (q.2.map V.int))) → DpAll K (hide M (upd H1 p (.lst (L'.map fun q => V.ref q.1)))) (L.map fun q => V.ref q.1) ((L.map Prod.snd).map dV) := fun L => by
      induction L with
      | nil => exact fun _ => .nil
      | cons a L ih => exact fun hq => .cons (vec_dp (st_of (new_ex hn _ _ (hN1.vis (hq a (by simp)))))) (ih fun b hb => hq b (by simp [hb]))
    exact this L' hL)⟩
end
/-- while the multiples of v are added to the members us, then to u, up to T -/
structure Adds (m : Int) (v : List Int) (ks us : List (List Int)) (u : List Int) (T : Int) (ks' : List (List Int)) : Prop where
  nd : ks'.Nodup
  mem : ∀ x, x ∈ ks' ↔ x ∈ ks ∨ (∃ u ∈ us, ∃ t : Int, 1 ≤ t ∧ t < m ∧ x = WM.comb m 1 u t v) ∨ ∃ t : Int, 1 ≤ t ∧ t < T ∧ x = WM.comb m 1 u t v
theorem Adds.one {m : Int} {v u : List Int} {ks us ks' : List (List Int)} {T : Int} (h : Adds m v ks us u T ks') (hT : 1 ≤ T) : Adds m v ks us u (T + 1) (addK ks' (WM.comb m 1 u T v)) := by
  refine ⟨nodup_addK h.nd, fun x => ?_⟩
  rw [mem_addK, h.mem]
  constructor
  · rintro ((a | a | ⟨t, h1, h2, h3⟩) | a)
    · exact .inl a
    · exact .inr (.inl a)
    · exact .inr (.inr ⟨t, h1, by omega, h3⟩)
    · exact .inr (.inr ⟨T, hT, by omega, a⟩)
  · rintro (a | a | ⟨t, h1, h2, h3⟩)
    · exact .inl (.inl a)
    · exact .inl (.inr (.inl a))
    · by_cases e : t = T
      · subst e; exact .inr h3
      · exact .inl (.inr (.inr ⟨t, h1, by omega, h3⟩))
theorem Adds.next {m : Int} {v u u' : List Int} {ks us ks' : List (List Int)} (h : Adds m v ks us u m ks') : Adds m v ks (us ++ [u]) u' 1 ks' := by
  refine ⟨h.nd, fun x => ?_⟩
  rw [h.mem]
  constructor
  · rintro (a | ⟨w, hw, r⟩ | r)
    · exact .inl a
    · exact .inr (.inl ⟨w, by simp [hw], r⟩)
    · exact .inr (.inl ⟨u, by simp, r⟩)
  · rintro (a | ⟨w, hw, r⟩ | ⟨t, h1, h2, _⟩)
    · exact .inl a
    · rcases List.mem_append.mp hw with z | z
      · exact .inr (.inl ⟨w, z, r⟩)
      · rw [List.mem_singleton.mp z] at r
        exact .inr (.inr r)
    · omega
theorem Adds.start {m : Int} {v u : List Int} {ks : List (List Int)} (h : ks.Nodup) : Adds m v ks [] u 1 ks := by
  refine ⟨h, fun x => ⟨.inl, ?_⟩⟩
  rintro (a | ⟨w, hw, _⟩ | ⟨t, h1, h2, _⟩)
  · exact a
  · cases hw
  · omega
theorem Adds.ofMid {m : Int} {v u u' : List Int} {ks us ks' : List (List Int)} (h : Adds m v ks us u 1 ks') : Adds m v ks us u' 1 ks' := by
  refine ⟨h.nd, fun x => ?_⟩
  rw [h.mem]
  constructor
  · rintro (a | a | ⟨t, h1, h2, _⟩)
    · exact .inl a
    · exact .inr (.inl a)
    · omega
  · rintro (a | a | ⟨t, h1, h2, _⟩)
    · exact .inl a
    · exact .inr (.inl a)
    · omega
theorem Adds.vec {m : Int} {n : Nat} {v u : List Int} {vs ks us ks' : List (List Int)} {T : Int} (hm : 0 < m) (h : Adds m v ks us u T ks') (hk : WM.Mems m n vs ks) (hus : ∀ w ∈ us, w ∈ ks) (hu : u ∈ ks) (hv : WM.Vec m n v) : ∀ x ∈ ks', WM.Vec m n x := fun x hx => by
  rcases (h.mem x).mp hx with a | ⟨w, hw, t, _, _, rfl⟩ | ⟨t, _, _, rfl⟩
  · exact hk.vec x a
  · exact WM.Vec.comb hm (hk.vec w (hus w hw)).len hv.len
  · exact WM.Vec.comb hm (hk.vec u hu).len hv.len
theorem Adds.mems {m : Int} {n : Nat} {v u : List Int} {vs ks ks' : List (List Int)} (hm : 0 < m) (h : Adds m v ks ks u 1 ks') (hk : WM.Mems m n vs ks) (hv : WM.Vec m n v) : WM.Mems m n (vs ++ [v]) ks' := hk.new hm hv h.nd fun x => by
  rw [h.mem]
  constructor
  · rintro (a | a | ⟨t, h1, h2, _⟩)
    · exact .inl a
    · exact .inr a
    · omega
  · rintro (a | a)
    · exact .inl a
    · exact .inr (.inl a)
section
variable {w : World} {K : PySem.W.Frag} {mg : Str → Option Value} {base : Heap}
abbrev N_law_members : List Str := ["_law_modulus", "_law_width", "_law_vectors_here", "_law_found", "_law_vector_here", "_law_one", "_law_times", "_law_k"]
theorem sc_law_members : FnScope N_law_members ["_law_modulus", "_law_width", "_law_vectors_here"] d_law_members.scope := ⟨rfl, rfl, rfl, by decide +kernel, rfl, by decide +kernel, by decide +kernel⟩
theorem bi_law_members (kV doc pm : Value) (an : Option Addr) (cdv ct : Value) (us : List Value) (hl : us.length = 3) : bindArgs (PySem.W.fnOf d_law_members.name d_law_members.qual d_law_members.params d_law_members.body d_law_members.scope .none kV doc pm an cdv ct) ⟨us, []⟩ = pure ((["_law_modulus", "_law_width", "_law_vectors_here"] : List Str).zip us) := by
  match us, hl with
  | [_, _, _], _ => rfl

def MemsOk (m n : Nat) (vs : List (List Int)) (ks : List (List Int)) : Prop := WM.Mems m n vs ks ∧ ks.Pairwise WM.LLt
def R_law_members (K : PySem.W.Frag) (Ts : List Ty) (T : Ty) : Prop := ∃ (m n : Nat) (vs : List (List Int)), Ts = [tI K m, tI K n, dat K (dL vs)] ∧ 2 ≤ m ∧ m ≤ 60 ∧ 1 ≤ n ∧ n ≤ 6 ∧ m ^ n ≤ 256 ∧ (∀ v ∈ vs, WM.Vec m n v) ∧ T = tyEx (MemsOk m n vs) (fun ks => dat K (dL ks))
theorem cal_law_members (G : Glb w K mg base) : C8.Cal PP w K mg base 1 "_law_members" (SpM (R_law_members K)) [] :=
  cal_mk G 58 (d := d_law_members) rfl rfl G.g_law_members rfl sc_law_members (spM_len fun Ts T ⟨_, _, _, h, _⟩ => by rw [h]; rfl) bi_law_members (fun f cdv A outer s H vs0 Q E hr hsp => by
    obtain ⟨M, Ts, T, hM, hN, hv, ⟨m, n, vs, rfl, hm, hm2, hn, hn2, hmn, hvs, rfl⟩, hq⟩ := hsp
    obtain ⟨v1, v2, v3, rfl, h1, h2, h3⟩ := allT3 hv
    cases dp_int h1
    cases dp_int h2
    have hm0 : (0 : Int) < m := by omega
    refine ⟨_, (pss_cons (ps_set (i := 3) sc_law_members.nd rfl (by first | exact Or.inl rfl | exact Or.inr rfl) (pe_dispT1 (hu_of hr) (pe_callTy (T := "tuple") call_tuple_of (by rfl) G.f_tuple (by decide +kernel) (pa_cons (pe_op op_rep (pe_lst (pa_cons pe_int pa_nil)) (pv 1)) pa_nil)) pe_bl))
      (pss_cons (ps_for PassesOwn.never rfl (pi_list (pv 2)) (pg_name (i := 4) sc_law_members.nd rfl (by first | exact Or.inl rfl | exact Or.inr rfl)) (pss_one (ps_if (pt_cmp (pc_dnotinS (hu_of hr) (pv 4) (pv 3))) (pss_one (ps_for PassesOwn.never rfl (pi_list (pe_callTy (T := "list") (call_list_dT rfl) (by rfl) G.f_list (by decide +kernel) (pa_cons (pv 3) pa_nil))) (pg_name (i := 5) sc_law_members.nd rfl (by first | exact Or.inl rfl | exact Or.inr rfl)) (pss_one (ps_for PassesOwn.never rfl (pi_range2 (by rfl) G.f_range (pa_cons pe_int (pa_cons (pv 0) pa_nil))) (pg_name (i := 6) sc_law_members.nd rfl (by first | exact Or.inl rfl | exact Or.inr rfl)) (pss_one (ps_dput (hu_of hr) (pv 3) (pe_callTy (T := "tuple") call_tuple_of (by rfl) G.f_tuple (by decide +kernel) (pa_cons (pe_lc (own := [("_law_k", 7)]) (g := (gName 7)) (tt := tYes) rfl sc_law_members.nd (pi_range1 (by rfl) G.f_range (pa_cons (pv 1) pa_nil)) (blkOk_by (N := N_law_members) (sc := d_law_members.scope) (by decide +kernel)) (fun _ _ _ _ _ => (pg_name (i := 7) sc_law_members.nd rfl (by first | exact Or.inl rfl | exact Or.inr rfl))) (fun _ _ _ _ _ => pts_nil) (fun _ _ _ _ _ => (pe_op op_mod (pe_op op_add (pe_ix (ix_tupK (K := K) rfl) (pv 5) (pv 7) (fun _ _ => rfl)) (pe_op op_mul (pv 6) (pe_ix (ix_tupK (K := K) rfl) (pv 4) (pv 7) (fun _ _ => rfl)))) (pv 0)))) pa_nil)) pe_bl rfl)))))) pss_nil)))
      (pss_one (ps_ret (pe_callB (id := "sorted") (call_sortedDT rfl hr.units) (by rfl) G.f_sorted (by decide +kernel) (pa_cons (pv 3) pa_nil)))))), ?_⟩
    -- the dict with the zero vector
    intro p hp
    have f0 : Fr [] M H (p :: M) (upd H p (.dT [])) := (Fr.refl hM).new hp
    refine (eg_tupleP (K := K) (M := p :: M) (ns := zeros n) ((ed_rep1 (d := .int 0) (k := n) (by omega) ed_int (ed_varI rfl)).to (by rw [zeros, List.map_replicate]))) f0.ok _ (Ex.refl _) _ fun y H1 e1 ⟨b, eb, hb⟩ => ?_
    subst eb
    have hp1 : H1 p = some (.dT []) := e1 p _ upd_same
    refine ⟨hp1, b, encK (zeros n), rfl, by rw [kv_encK]; exact hide_sub _ _ _ _ hb, ?_⟩
    dsimp only
    have f1 : Fr [] M H (p :: M) (upd H1 p (.dT (putK [] (encK (zeros n)) (.bl true)))) := (f0.gex e1).upd (by simp) (.inr hp)
    have k1 : (putK ([] : List (List Key × V)) (encK (zeros n)) (.bl true)).map (·.1) = [zeros n].map encK := by
      have := putK_keys (kvs := []) (ks := []) rfl (zeros n) (.bl true)
      rw [this]; rfl
    have d1 : (upd H1 p (.dT (putK [] (encK (zeros n)) (.bl true)))) p = some (.dT (putK [] (encK (zeros n)) (.bl true))) := upd_same
    generalize upd H1 p (.dT (putK [] (encK (zeros n)) (.bl true))) = H2 at f1 d1
    generalize putK ([] : List (List Key × V)) (encK (zeros n)) (.bl true) = kvs1 at k1 d1
    have h32 := Dp.mono h3 f1.vis
    have hpM : p ∉ M := hM.new hp
    -- what of the state is known in every loop
    have hN2 : ∀ {H' : Hp} {kvs : List (List Key × V)}, Fr [p] (p :: M) H2 (p :: M) H' → H' p = some (.dT kvs) → NT (p :: M) H' := fun {H' kvs} fr hd a ha xs e => by
      rcases List.mem_cons.mp ha with z | z
      · rw [z, hd] at e; cases e
      · refine hN.keep hM (fun a ha o q => ?_) a z xs e
        exact fr.keep a o (by simp; exact fun e => hpM (e ▸ ha)) (f1.out a o q)
    refine s_for f1.ok (ei_ld (K := K) (src := vs) (f := dV) (ed_var rfl h32)) (p :: M) (fun HH i σ' H' => ∃ y4 y5 y6 y7 kvs ks, σ' = [some (.int (m : Int)), some (.int (n : Int)), some v3, some (.ref p), y4, y5, y6, y7] ∧ Fr [p] (p :: M) HH (p :: M) H' ∧ H' p = some (.dT kvs) ∧ kvs.map (·.1) = ks.map encK ∧ WM.Mems m n (vs.take i) ks) (fun HH i σ' H' e ⟨_, _, _, _, _, _, _, fr, _⟩ => ⟨fr.vis, fr.ok⟩) (fun HH e => ⟨none, none, none, none, kvs1, [zeros n], rfl, Fr.refl1 (f1.ok.ex e), e p _ d1, k1, by rw [List.take_zero]; exact WM.mems_nil (by omega) n⟩) ?_ ?_
    · rintro HH i v x σ' H' H3 e hi ⟨y4, y5, y6, y7, kvs, ks, rfl, fr, hd, hks, hms⟩ e2 hx
      dsimp only
      have hv : WM.Vec m n v := hvs v (List.mem_of_getElem? hi)
      have fr3 := fr.gex e2
      have hd3 := e2 p _ hd
      have hi1 : vs.take (i + 1) = vs.take i ++ [v] := by rw [List.take_add_one, hi]; rfl
      refine sd_if fr3.ok (et_notinT (K := K) (k := v) (ks := ks) rfl hx rfl hd3 hks) (fun hb H4 e4 => ?_) (fun hb H4 e4 => ⟨_, _, _, _, kvs, ks, rfl, fr3.gex e4, e4 p _ hd3, hks, by rw [hi1]; exact hms.old (by simpa using hb)⟩)
      have fr4 := fr3.gex e4
      have hd4 := e4 p _ hd3
      have hx4 := Dp.mono hx (hide_ex (M := p :: M) e4)
      have ft4 : Fr [p] (p :: M) H2 (p :: M) H4 := (Fr.ofEx f1.ok e).trans fr4 fun _ h => .inl h
      refine s_for fr4.ok (ei_l (K := K) (src := ks) (ty := fun k => dat K (dV k)) (eg_keysT (hN2 ft4 hd4) fr4.ok rfl hd4 hks)) (p :: M) (fun H5 i2 σ' H' => ∃ y5 y6 y7 kvs' ks', σ' = [some (.int (m : Int)), some (.int (n : Int)), some v3, some (.ref p), some x, y5, y6, y7] ∧ Fr [p] (p :: M) H5 (p :: M) H' ∧ H' p = some (.dT kvs') ∧ kvs'.map (·.1) = ks'.map encK ∧ Adds m v ks (ks.take i2) v 1 ks') (fun HH i σ' H' e ⟨_, _, _, _, _, _, fr, _⟩ => ⟨fr.vis, fr.ok⟩) (fun H5 e5 => ⟨_, _, _, kvs, ks, rfl, Fr.refl1 (fr4.ok.ex e5), e5 p _ hd4, hks, by rw [List.take_zero]; exact Adds.start hms.nd⟩) ?_ ?_
      · rintro H5 i2 u xu σ' H' H6 e5 hi2 ⟨y5, y6, y7, kvs', ks', rfl, fr5, hd5, hks5, ha5⟩ e6 hxu
        dsimp only
        have hu : u ∈ ks := List.mem_of_getElem? hi2
        have huv := hms.vec u hu
        have fr6 := fr5.gex e6
        have hd6 := e6 p _ hd5
        have hi3 : ks.take (i2 + 1) = ks.take i2 ++ [u] := by rw [List.take_add_one, hi2]; rfl
        have hx6 := (Dp.mono hx4 (hide_ex (M := p :: M) e5)).mono fr6.vis
        refine s_for fr6.ok (ei_r2 (K := K) (lo := 1) (hi := m) (by omega) (by omega) (ea_cons ed_int (ea_one (ed_varI rfl)))) (p :: M) (fun H7 i3 σ' H' => ∃ y6 y7 kvs' ks', σ' = [some (.int (m : Int)), some (.int (n : Int)), some v3, some (.ref p), some x, some xu, y6, y7] ∧ Fr [p] (p :: M) H7 (p :: M) H' ∧ H' p = some (.dT kvs') ∧ kvs'.map (·.1) = ks'.map encK ∧ Adds m v ks (ks.take i2) u (1 + i3) ks') (fun HH i σ' H' e ⟨_, _, _, _, _, fr, _⟩ => ⟨fr.vis, fr.ok⟩) (fun H7 e7 => ⟨_, _, kvs', ks', rfl, Fr.refl1 (fr6.ok.ex e7), e7 p _ hd6, hks5, Adds.ofMid ha5⟩) ?_ ?_
        · rintro H7 i3 t xt σ' H' H8 e7 hi3' ⟨y6, y7, kvs8, ks8, rfl, fr8, hd8, hks8, ha8⟩ e8 hxt
          obtain ⟨ht1, ht2⟩ := List.getElem?_eq_some_iff.mp hi3'
          simp at ht1 ht2
          subst ht2
          cases dp_int hxt
          dsimp only
          have fr9 := fr8.gex e8
          have hd9 := e8 p _ hd8
          have hx9 := (Dp.mono hx6 (hide_ex (M := p :: M) e7)).mono fr9.vis
          have hu9 := (Dp.mono hxu (hide_ex (M := p :: M) e7)).mono fr9.vis
          have hcnt : ks8.length ≤ m ^ n := WM.vec_count (m := m) ha8.nd (ha8.vec hm0 hms (fun w hw => List.mem_of_mem_take hw) hu hv)
          have hkl : kvs8.length = ks8.length := by simpa using congrArg List.length hks8
          refine s_dputT (k := WM.comb m 1 u (1 + (i3 : Int)) v) (T := tB K true) fr9.ok (ed_bl (K := K)).eg rfl hd9 (eg_tupleP ((ed_lcRZ (K := K) (n := n) huv.len hv.len (ea_one (ed_varI rfl)) (by omega) (fun a b => (a + (1 + (i3 : Int)) * b) % m) (fun _ => rfl) fun M' H' a ex hM' ha => ?_).to (by rw [zip_comb]))) (by omega) fun b H9 e9 hb => ?_
          · exact ed_mod hm0 (ed_add (ed_at (by rw [huv.len]; exact ha) (ed_var rfl (Dp.mono hu9 ex)) (ed_varI rfl)) (ed_mul (cmulL (by omega)) (ed_varI rfl) (ed_at (by rw [hv.len]; exact ha) (ed_var rfl (Dp.mono hx9 ex)) (ed_varI rfl)))) (ed_varI rfl)
          · refine ⟨_, _, _, addK ks8 _, rfl, (fr9.gex e9).upd (by simp) (.inl (by simp)), upd_same, putK_keys hks8 _ _, ?_⟩
            have := ha8.one (by omega)
            rw [show (1 : Int) + ((i3 + 1 : Nat) : Int) = 1 + (i3 : Int) + 1 by omega]
            exact this
        · rintro H7 σ' H' e7 ⟨y6, y7, kvs8, ks8, rfl, fr8, hd8, hks8, ha8⟩
          refine ⟨_, _, _, kvs8, ks8, rfl, (fr6.trans (Fr.ofEx fr6.ok e7) fun _ h => .inl h).trans fr8 fun _ h => .inl h, hd8, hks8, ?_⟩
          rw [hi3]
          refine Adds.next ?_
          have e : (1 : Int) + ((List.range ((m : Int) - 1).toNat).length : Nat) = m := by rw [List.length_range]; omega
          rw [e] at ha8
          exact ha8
      · rintro H5 σ' H' e5 ⟨y5, y6, y7, kvs', ks', rfl, fr5, hd5, hks5, ha5⟩
        refine ⟨_, _, _, _, kvs', ks', rfl, (fr4.trans (Fr.ofEx fr4.ok e5) fun _ h => .inl h).trans fr5 fun _ h => .inl h, hd5, hks5, ?_⟩
        rw [List.take_length] at ha5
        rw [hi1]
        exact ha5.mems hm0 hms hv
    · rintro HH σ' H' e ⟨y4, y5, y6, y7, kvs, ks, rfl, fr, hd, hks, hms⟩
      dsimp only
      rw [List.take_length] at hms
      have ft : Fr [p] (p :: M) H2 (p :: M) H' := (Fr.ofEx f1.ok e).trans fr fun _ h => .inl h
      have hcnt : ks.length ≤ m ^ n := WM.vec_count (m := m) hms.nd hms.vec
      refine sg_ret ft.ok (eg_sortedT (K := K) (hN2 ft hd) ft.ok rfl hd hks (by omega) fun _ k hk e => ?_) fun v H5 e5 ⟨l, ⟨hl1, hl2⟩, hv⟩ => ?_
      · have := (hms.vec k hk).len
        rw [e] at this
        simp at this
        omega
      · have fa : Fr [] M H (p :: M) H5 := (f1.trans ft fun a ha => .inr (by rw [List.mem_singleton.mp ha]; exact hp)).gex e5
        refine hq v H5 fa.out ⟨l, ⟨⟨hl1.nodup_iff.mpr hms.nd, fun x => by rw [hl1.mem_iff]; exact hms.mem x⟩, WM.asc_llt hl2 (hl1.nodup_iff.mpr hms.nd) fun x hx => (hms.vec x (hl1.mem_iff.mp hx)).len⟩, ?_⟩
        exact Dp.mono hv (hide_less fun a ha => by simp [ha]))
end
/-! the bag beside old tuples -/
def SpBM (R : List Ty → Ty → Prop) : Sp := fun vs H Q _ => ∃ M b c ws Ts T, MOk M H ∧ NT M H ∧ b ∈ M ∧ BagOk H b c ∧ vs = .ref b :: ws ∧ AllT (hide M H) ws Ts ∧ R Ts T ∧ ∀ v H', Fr [b] M H M H' → BagOk H' b c → T.p v (hide M H') → Q v H'
theorem spBM_len {R : List Ty → Ty → Prop} {n : Nat} (h : ∀ Ts T, R Ts T → Ts.length = n) : ∀ vs H Q E, SpBM R vs H Q E → vs.length = n + 1 := fun vs H Q E ⟨M, b, c, ws, Ts, T, _, _, _, _, e, h1, h2, _⟩ => by rw [e, List.length_cons, h1.len, h Ts T h2]
theorem NT.bag {b c : Addr} {M : List Addr} {H H' : Hp} (h : NT M H) (hM : MOk M H) (f : Fr [b] M H M H') (B : BagOk H' b c) : NT M H' := fun a ha xs e => by
  by_cases z : a = b
  · obtain ⟨_, _, _, _, B⟩ := B
    rw [z, B.at_b] at e
    cases e
  · cases q : H a with
    | none => exact hM a ha q
    | some o =>
      rw [f.keep a o (by simpa using z) q] at e
      injection e with e
      subst e
      exact h a ha xs q
section
variable {K : PySem.W.Frag} {b c : Addr} {M : List Addr} {σ : L2.St} {H H' : Hp} {te : TE} {T : Ty} {Ts : List Ty}
theorem refs_of {H : Hp} : ∀ {xs : List V} {l : List (List Int)}, AllT H xs (l.map fun x => dat K (dV x)) → ∃ L : List (Addr × List Int), xs = L.map (fun p => V.ref p.1) ∧ l = L.map Prod.snd ∧ ∀ p ∈ L, SqT K H p.1 (p.2.map V.int)
  | _, [], h => by
    cases h
    exact ⟨[], rfl, rfl, by simp⟩
  | _, x :: l, h => by
    cases h with
    | cons a h2 =>
      obtain ⟨p, rfl, hs⟩ := dp_vec a
      obtain ⟨L, rfl, rfl, h3⟩ := refs_of h2
      exact ⟨(p, x) :: L, rfl, rfl, fun q hq => by
        rcases List.mem_cons.mp hq with e | e
        · rw [e]; exact hs
        · exact h3 q e⟩
/-- sorted(xs), vectors -/
theorem eg_sortedV {l : List (List Int)} (h : ED K M te σ H (dL l)) (hl : l.length ≤ 10000) (hne : 2 ≤ l.length → ∀ x ∈ l, x ≠ []) : EG M (tCB (rSortedV K) (tCons te tNil)) σ H (tyEx (fun l' : List (List Int) => l'.Perm l ∧ l'.Pairwise fun a b => ¬ WM.LLt b a) (fun l' => dat K (dL l'))) := fun hM H1 e Q q =>
  h hM H1 e _ fun v H2 e2 hv => by
    obtain ⟨a, xs, rfl, hs, hx⟩ := dp_lst hv
    obtain ⟨L, rfl, rfl, hL⟩ := refs_of (AllT.of_dpf hx)
    refine ⟨a, L, rfl, ex_l (hide_sub _ _) hs, fun p hp => ex_t (hide_sub _ _) (hL p hp), by simpa using hl, fun h2 p hp => hne (by simpa using h2) _ (List.mem_map.mpr ⟨p, hp, rfl⟩), fun L' p hp hs' hn => q _ _ (e2.trans (Ex.new hn)) ?_⟩
    refine ⟨L'.map Prod.snd, ⟨hp.map _, List.pairwise_map.mpr hs'⟩, .lst (sq_of (by rw [hide_out ((hM.ex (e.trans e2)).new hn)]; exact upd_same)) ?_⟩
    have : ∀ L0 : List (Addr × List Int), (∀ q ∈ L0, SqT K (hide M H2) q.1 (q.2.map V.int)) → DpAll K (hide M (upd H2 p (.lst (L'.map fun q => V.ref q.1)))) (L0.map fun q => V.ref q.1) ((L0.map Prod.snd).map dV) := fun L0 => by
      induction L0 with
      | nil => exact fun _ => .nil
      | cons a L0 ih => exact fun hq => .cons (vec_dp (ex_t (new_ex hn) (hq a (by simp)))) (ih fun b hb => hq b (by simp [hb]))
    exact this L' fun q hq => hL q (hp.mem_iff.mp hq)
end
section
variable {w : World} {K : PySem.W.Frag} {mg : Str → Option Value} {base : Heap}
abbrev N_law_coset : List Str := ["_law_bag_here", "_law_modulus", "_law_wheels", "_law_vectors_here", "_law_base", "_law_members_here", "_law_one", "_law_k"]
theorem sc_law_coset : FnScope N_law_coset ["_law_bag_here", "_law_modulus", "_law_wheels", "_law_vectors_here"] d_law_coset.scope := ⟨rfl, rfl, rfl, by decide +kernel, rfl, by decide +kernel, by decide +kernel⟩
theorem bi_law_coset (kV doc pm : Value) (an : Option Addr) (cdv ct : Value) (us : List Value) (hl : us.length = 4) : bindArgs (PySem.W.fnOf d_law_coset.name d_law_coset.qual d_law_coset.params d_law_coset.body d_law_coset.scope .none kV doc pm an cdv ct) ⟨us, []⟩ = pure ((["_law_bag_here", "_law_modulus", "_law_wheels", "_law_vectors_here"] : List Str).zip us) := by
  match us, hl with
  | [_, _, _, _], _ => rfl

/-- the members of a coset, in ascending order -/
structure CosL (m n : Nat) (vs : List (List Int)) (b : List Int) (lot : List (List Int)) : Prop where
  vec : WM.Vec m n b
  ne : lot ≠ []
  srt : lot.Pairwise WM.LLt
  len : lot.length ≤ m ^ n
  mem : ∀ x, x ∈ lot ↔ WM.Vec m n x ∧ WM.In m (WM.GenV vs) (fun i => WM.at_ x i - WM.at_ b i)
def R_law_coset (K : PySem.W.Frag) (Ts : List Ty) (T : Ty) : Prop := ∃ (m n : Nat) (vs : List (List Int)), Ts = [tI K m, tI K n, dat K (dL vs)] ∧ 2 ≤ m ∧ m ≤ 60 ∧ 1 ≤ n ∧ n ≤ 6 ∧ m ^ n ≤ 256 ∧ (∀ v ∈ vs, WM.Vec m n v) ∧ T = tyEx (fun q : List Int × List (List Int) => CosL m n vs q.1 q.2) (fun q => dat K (dL q.2))
theorem cal_law_coset (G : Glb w K mg base) : C8.Cal PP w K mg base 3 "_law_coset" (SpBM (R_law_coset K)) [] :=
  cal_mk G 68 (d := d_law_coset) rfl rfl G.g_law_coset rfl sc_law_coset (spBM_len fun Ts T ⟨_, _, _, h, _⟩ => by rw [h]; rfl) bi_law_coset (fun f cdv A outer s H vs0 Q E hr hsp => by
    obtain ⟨M, b, c, ws, Ts, T, hM, hN, hbM, hB, rfl, hv, ⟨m, n, vs, rfl, hm, hm2, hn, hn2, hmn, hvs, rfl⟩, hq⟩ := hsp
    obtain ⟨v1, v2, v3, rfl, h1, h2, h3⟩ := allT3 hv
    cases dp_int h1
    cases dp_int h2
    have hm0 : (0 : Int) < m := by omega
    refine ⟨_, (pss_cons (ps_set (i := 4) sc_law_coset.nd rfl (by first | exact Or.inl rfl | exact Or.inr rfl) (C8.pe_c (cal_law_vector G) hr (by decide) (by rfl) (pa_cons (pv 0) (pa_cons (pv 1) (pa_cons (pv 2) pa_nil)))))
      (pss_cons (ps_set (i := 5) sc_law_coset.nd rfl (by first | exact Or.inl rfl | exact Or.inr rfl) (C8.pe_c (cal_law_members G) hr (by decide) (by rfl) (pa_cons (pv 1) (pa_cons (pv 2) (pa_cons (pv 3) pa_nil)))))
      (pss_one (ps_ret (pe_callB (id := "sorted") (cr_sortedTL rfl hr.units) (by rfl) G.f_sorted (by decide +kernel) (pa_cons (pe_lc (own := [("_law_one", 6)]) (g := (gName 6)) (tt := tYes) rfl sc_law_coset.nd (pi_list (pv 5)) (blkOk_by (N := N_law_coset) (sc := d_law_coset.scope) (by decide +kernel)) (fun _ _ _ _ _ => (pg_name (i := 6) sc_law_coset.nd rfl (by first | exact Or.inl rfl | exact Or.inr rfl))) (fun _ _ _ _ _ => pts_nil) (fun _ _ _ _ _ => (pe_callTy (T := "tuple") (call_tuple_ofK (K := K) rfl) (by rfl) G.f_tuple (by decide +kernel) (pa_cons (pe_lc (own := [("_law_k", 7)]) (g := (gName 7)) (tt := tYes) rfl sc_law_coset.nd (pi_range1 (by rfl) G.f_range (pa_cons (pv 2) pa_nil)) (blkOk_by (by rfl)) (fun _ _ _ _ _ => (pg_name (i := 7) sc_law_coset.nd rfl (by first | exact Or.inl rfl | exact Or.inr rfl))) (fun _ _ _ _ _ => pts_nil) (fun _ _ _ _ _ => (pe_op op_mod (pe_op op_add (pe_ix (ix_tupK (K := K) rfl) (pv 4) (pv 7) (fun _ _ => rfl)) (pe_ix (ix_tupK (K := K) rfl) (pv 6) (pv 7) (fun _ _ => rfl))) (pv 1)))) pa_nil)))) pa_nil)))))), ?_⟩
    refine sb_set hM hB (eb_call (T := tyEx (WM.Vec m n) (tV K)) (R := R_law_vector K) hbM rfl (eba_cons (eb_varI rfl) (eb_one (eb_varI rfl))) ⟨m, n, rfl, by omega, by omega, by omega, rfl⟩) fun v4 H1 f1 B1 ⟨bs, hbs, h4⟩ => ?_
    dsimp only
    have hN1 := hN.bag hM f1 B1
    have h31 := Dp.mono h3 f1.vis
    refine sg_set f1.ok (eg_callM (R := R_law_members K) (T := tyEx (MemsOk m n vs) (fun ks => dat K (dL ks))) hN1 f1.ok (ega_d (ed_varI (K := K) rfl) (ega_d (ed_varI (K := K) rfl) (ega_d (ed_var (K := K) rfl h31) ega_nil))) ⟨m, n, vs, rfl, hm, hm2, hn, hn2, hmn, hvs, rfl⟩) fun v5 H2 e2 ⟨ks, ⟨hks, _⟩, h5⟩ => ?_
    dsimp only
    have h42 := Dp.mono h4 (hide_ex (M := M) e2)
    obtain ⟨hnd, hmem⟩ := WM.coset_list hm0 hks hbs
    have hcnt : (ks.map fun u => WM.comb m 1 bs 1 u).length ≤ m ^ n := WM.vec_count (m := m) hnd fun x hx => ((hmem x).mp hx).1
    have hcnt2 : ks.length ≤ 256 := by rw [List.length_map] at hcnt; omega
    refine sg_ret (f1.ok.ex e2) (eg_sortedV (K := K) (l := ks.map fun u => WM.comb m 1 bs 1 u) ((ed_lcL1 (src := ks) (g := dV) (ed_var (K := K) rfl h5) (by omega) (fun u => dV (WM.comb m 1 bs 1 u)) (fun _ => rfl) fun M' H' x u ex hM' hu hx => ?_).to (by rw [dL, List.map_map]; rfl)) (by omega) fun _ x hx e => ?_) fun v H3 e3 ⟨l, ⟨hl1, hl2⟩, hv⟩ => ?_
    · have huv := hks.vec u hu
      refine ed_tupleOf ((ed_lcRZ (K := K) (n := n) hbs.len huv.len (ea_one (ed_varI rfl)) (by omega) (fun a b => (a + b) % m) (fun _ => rfl) fun M2 H4 a ex2 hM2 ha => ?_).to (by rw [WM.zip_add]))
      exact ed_mod hm0 (ed_add (ed_at (by rw [hbs.len]; exact ha) (ed_var rfl ((Dp.mono h42 ex).mono ex2)) (ed_varI rfl)) (ed_at (by rw [huv.len]; exact ha) (ed_var rfl (Dp.mono hx ex2)) (ed_varI rfl))) (ed_varI rfl)
    · have := ((hmem x).mp hx).1.len
      rw [e] at this
      simp at this
      omega
    · refine hq v H3 ((f1.gex e2).gex e3) ((B1.up e2).up e3) ⟨(bs, l), ⟨hbs, fun z => ?_, WM.asc_llt hl2 (hl1.nodup_iff.mpr hnd) fun x hx => ((hmem x).mp (hl1.mem_iff.mp hx)).1.len, by rw [hl1.length_eq]; exact hcnt, fun x => by rw [hl1.mem_iff]; exact hmem x⟩, hv⟩
      have hb : bs ∈ ks.map fun u => WM.comb m 1 bs 1 u := (hmem bs).mpr ⟨hbs, .zero fun i => ⟨0, by omega⟩⟩
      have := hl1.mem_iff.mpr hb
      rw [show l = [] from z] at this
      cases this)
end
end WL
end
section
set_option Elab.async false
set_option linter.all false
set_option maxRecDepth 100000
set_option maxHeartbeats 4000000
/-! LayM: lists of numbers that are replaced within a list. -/
namespace WL
open PySem PySem.Spec PyProof.Rows L2 Evl HeadW
abbrev dI (r : List Int) : PyData := .list (r.map .int)
/-- a new list -/
def tyLF (H0 : Hp) (Ts : List Ty) : Ty := ⟨fun v H => ∃ a xs, v = .ref a ∧ H0 a = none ∧ H a = some (.lst xs) ∧ AllT H xs Ts, fun e ⟨a, xs, h1, h0, h2, h3⟩ => ⟨a, xs, h1, h0, e a _ h2, h3.up e⟩⟩
section
variable {K : PySem.W.Frag} {M : List Addr} {σ : L2.St} {H H' : Hp} {te ta tb : TE} {T : Ty} {Ts : List Ty} {D : Ends} {i j : Nat} {α : Type} {src : List α} {ty : α → Ty}
/-- a comprehension's list is new -/
theorem eg_lcN {wi : TI} {g : TG} {tt : TT} {vs : List Nat} (hi : EI M wi σ H src ty) (hl : src.length ≤ 90000) (p : α → Bool) (f : α → Ty)
    (ht : ∀ M' H' x a (i : Nat), Ex (hide M H) (hide M' H') → MOk M' H' → src[i]? = some a → (ty a).p x (hide M' H') → Turn M' g tt te vs σ x H' (p a) (f a)) :
    EG M (tLc wi g tt te vs) σ H (tyLF H ((src.filter p).map f)) := fun hM H1 e Q q => hi hM H1 e _ fun J H2 e2 gv => fun D hD => by
  have hM2 : MOk M H2 := hM.ex (e.trans e2)
  have hDM : D ∉ M := hM2.new hD
  have fr0 : Fr [] M H2 (D :: M) (upd H2 D (.lst [])) := (Fr.refl hM2).new hD
  refine ⟨fun i m H' => m = src.length - i ∧ i ≤ src.length ∧ Fr [] M H2 (D :: M) H' ∧ ∃ ys, H' D = some (.lst ys) ∧ ys.length ≤ i ∧ AllT (hide (D :: M) H') ys (((src.take i).filter p).map f), ⟨src.length, by simp, Nat.zero_le _, fr0, [], upd_same, Nat.zero_le _, by simpa using AllT.nil⟩, ?_⟩
  rintro i m H' ⟨rfl, hi2, fr, ys, hy, hyl, hys⟩
  obtain ⟨g1, g2⟩ := gv (D :: M) H' fr.vis fr.ok
  by_cases hlt : i < src.length
  · have hsi : src[i]? = some src[i] := by simp [hlt]
    obtain ⟨g3, g4⟩ := g1 i src[i] hsi
    refine .inr ⟨g3, fun H4 => i + 1 ≤ src.length ∧ Fr [] M H2 (D :: M) H4 ∧ ∃ ys, H4 D = some (.lst ys) ∧ ys.length ≤ i + 1 ∧ AllT (hide (D :: M) H4) ys (((src.take (i + 1)).filter p).map f), fun H4 h4 => ⟨src.length - (i + 1), by omega, rfl, h4⟩, fun x H4 y4 => ?_⟩
    obtain ⟨e4, t4⟩ := g4 x H4 y4
    have fr4 := fr.gex e4
    have hfr : Ex (hide M H) (hide (D :: M) H4) := (hide_ex (e.trans e2)).trans fr4.vis
    have etake : src.take (i + 1) = src.take i ++ [src[i]] := by rw [List.take_add_one, hsi]; rfl
    refine ht (D :: M) H4 x src[i] i hfr fr4.ok hsi t4 fr4.ok H4 (Ex.refl _) _ _ (fun hb v H5 e5 h5 => ?_) (fun hb H5 e5 => ?_)
    · have e45 := e4.trans e5
      refine ⟨ys, e45 D _ hy, sz_lt (by omega), by omega, ?_⟩
      have fr5 := (fr.gex e45).upd (a := D) (o := .lst (ys ++ [v])) (by simp) (.inr hD)
      refine ⟨fr5, ys ++ [v], upd_same, by simp; omega, ?_⟩
      rw [hide_upd (by simp), etake, List.filter_append, List.map_append]
      refine (hys.up (hide_ex e45)).app ?_
      simp [hb]
      exact .cons h5 .nil
    · have e45 := e4.trans e5
      refine ⟨by omega, fr.gex e45, ys, e45 D _ hy, by omega, ?_⟩
      rw [etake, List.filter_append, List.map_append]
      simp [hb]
      have := hys.up (hide_ex e45)
      simpa using this
  · have ei : i = src.length := by omega
    subst ei
    refine .inl ⟨g2 _ (Nat.le_refl _), q _ H' (e2.trans fr.out) ⟨D, ys, rfl, none_of (e.trans e2) hD, by rw [hide_out hDM]; exact hy, ?_⟩⟩
    rw [List.take_length] at hys
    exact hys.up (hide_less fun a ha => List.mem_cons_of_mem _ ha)
/-- xs[k], xs the list that changes -/
theorem ed_rdV {p : Addr} {xs : List V} {ds : List PyData} {d : PyData} {k : Nat} (hi : σ[i]? = some (some (.ref p))) (hp : H p = some (.lst xs)) (hx : DpAll K (hide M H) xs ds) (hk : ds[k]? = some d) (hb : ED K M tb σ H (.int (k : Int))) : ED K M (tOp (rIxL K) (tVar i) tb) σ H d := fun hM H1 e Q q =>
  ⟨_, hi, hb hM H1 e _ fun y H2 e2 hy => by
    obtain ⟨v, ev, hv⟩ := dpAll_get hx hk
    exact ⟨p, xs, k, v, rfl, dp_int hy, sq_of ((e.trans e2) p _ hp), atI_nat' ev, q v H2 e2 (hv.mono (hide_ex (e.trans e2)))⟩⟩
/-- u[k] of a list of numbers -/
theorem ed_atL {u : List Int} {k : Nat} (hk : k < u.length) (ha : ED K M ta σ H (dI u)) (hb : ED K M tb σ H (.int (k : Int))) : ED K M (tOp (rIxL K) ta tb) σ H (.int (WM.at_ u k)) :=
  ed_ixL (atI_nat' (by rw [List.getElem?_map, WM.at_some hk]; rfl)) ha hb
/-- a list of numbers is no list of lists -/
theorem dI_hide {p x : Addr} {xs : List V} {v : V} {r : List Int} (h : Dp K (hide M H) v (dI r)) (hp : H p = some (.lst (.ref x :: xs))) : Dp K (hide (p :: M) H) v (dI r) := by
  obtain ⟨a, ys, rfl, hs, hy⟩ := dp_lst h
  have ey := dpAll_ints_eq hy
  subst ey
  refine .lst ?_ (dpAll_ints _)
  have key : ∀ o, hide M H a = some o → o ≠ .lst (.ref x :: xs) → hide (p :: M) H a = some o := fun o ho hne => by
    have h2 := hide_sub _ _ _ _ ho
    have h3 : a ∉ M := fun z => by rw [hide_in z] at ho; cases ho
    have hap : a ≠ p := fun z => by subst z; rw [hp] at h2; injection h2 with h2; exact hne h2.symm
    rw [hide_out (by simp [hap, h3])]
    exact h2
  rcases hs with (hs | ⟨o, hs⟩) | hs
  · refine .inl (.inl (key _ hs fun z => ?_))
    injection z with z
    cases r with
    | nil => cases z
    | cons _ _ => injection z with z _; cases z
  · exact .inl (.inr ⟨o, key _ hs fun z => by cases z⟩)
  · exact .inr hs
theorem ed_listOfV {u : List Int} (h : ED K M te σ H (dV u)) : ED K M (tCB (fun xs H Q => ∃ p ys, xs = [.ref p] ∧ (SqL K H p ys ∨ SqT K H p ys) ∧ ∀ l, H l = none → Q (.ref l) (upd H l (.lst ys))) (tCons te tNil)) σ H (dI u) := ed_listOfU h
end
end WL
end
section
set_option Elab.async false
set_option linter.all false
set_option maxRecDepth 100000
set_option maxHeartbeats 4000000
/-! D28: _law_hermite. -/
namespace WL
open PySem PySem.Spec PyProof.Rows L2 Evl HeadW
theorem call_list_ofK {X : Cx} {K : PySem.W.Frag} (h : X.K = K) : CallR X (.type "list") (fun xs H Q => ∃ p ys, xs = [.ref p] ∧ (SqL K H p ys ∨ SqT K H p ys) ∧ ∀ l, H l = none → Q (.ref l) (upd H l (.lst ys))) := h ▸ call_list_of
theorem sl_listK {X : Cx} {K : PySem.W.Frag} (h : X.K = K) : SlR X (rSlL K) := h ▸ sl_list
/-- a list of lists of numbers, to be changed -/
def LI (K : PySem.W.Frag) (M : List Addr) (H : Hp) (p : Addr) (R : List (List Int)) : Prop := ∃ xs, H p = some (.lst xs) ∧ DpAll K (hide M H) xs (R.map dI)
theorem Fr.adopt {B M0 M : List Addr} {H0 H : Hp} {p : Addr} {o : HO} (f : Fr B M0 H0 M H) (hp : H0 p = none) (ho : H p = some o) : Fr B M0 H0 (p :: M) H where
  keep := f.keep
  vis := fun a u h => by
    have h1 := f.vis a u h
    have h2 := hide_sub _ _ a u h
    have hap : a ≠ p := fun z => by rw [z, hp] at h2; cases h2
    have h3 : a ∉ M := fun z => by rw [hide_in z] at h1; cases h1
    rw [hide_out (by simp [hap, h3])]
    exact hide_sub _ _ _ _ h1
  ok := fun b hb => by
    rcases List.mem_cons.mp hb with z | z
    · rw [z, ho]; exact Option.some_ne_none o
    · exact f.ok b z
section
variable {K : PySem.W.Frag} {M : List Addr} {σ : L2.St} {H H' : Hp} {te ta tb : TE} {T : Ty} {Ts : List Ty} {D : Ends} {i j : Nat} {p q : Addr} {R : List (List Int)}
theorem LI.ex (h : LI K M H p R) (e : Ex H H') : LI K M H' p R := by
  obtain ⟨xs, h1, h2⟩ := h
  exact ⟨xs, e p _ h1, h2.mono (hide_ex e)⟩
theorem LI.other {o : HO} (h : LI K M H p R) (hq : q ∈ M) (hne : p ≠ q) : LI K M (upd H q o) p R := by
  obtain ⟨xs, h1, h2⟩ := h
  exact ⟨xs, by rw [upd_ne hne]; exact h1, by rw [hide_upd hq]; exact h2⟩
theorem dIs_hide1 {x : Addr} {xs : List V} (hp : H p = some (.lst (.ref x :: xs))) : ∀ {ys : List V} {R : List (List Int)}, DpAll K (hide M H) ys (R.map dI) → DpAll K (hide (p :: M) H) ys (R.map dI)
  | _, [], h => by cases h; exact .nil
  | _, r :: R, h => by
    cases h with
    | cons a b => exact .cons (dI_hide a hp) (dIs_hide1 hp b)
theorem dIs_hide {xs : List V} {R : List (List Int)} (hp : H p = some (.lst xs)) (h : DpAll K (hide M H) xs (R.map dI)) : DpAll K (hide (p :: M) H) xs (R.map dI) := by
  cases R with
  | nil => cases h; exact .nil
  | cons r R =>
    cases h with
    | cons a b =>
      obtain ⟨y, _, rfl, _, _⟩ := dp_lst a
      exact dIs_hide1 (x := y) hp (.cons a b)
/-- a, b = [.. for ..], [] -/
theorem s_pairNew (hM : MOk M H) (h : EG M te σ H (tyLF H Ts)) (k : ∀ p q xs H1 r, Ex H H1 → H p = none → H1 p = some (.lst xs) → AllT (hide M H1) xs Ts → H1 q = none → (upd H1 q (.lst [])) r = none → D.nx ((σ.set i (some (.ref p))).set j (some (.ref q))) (upd (upd H1 q (.lst [])) r (.tup [.ref p, .ref q]))) :
    tAsg (tTup (tCons te (tCons (tLst tNil) tNil))) (gTup K 2 (gCons (gName i) (gCons (gName j) gNil))) D σ H :=
  h hM H (Ex.refl _) _ fun vr H1 e1 ⟨p, xs, ev, hp0, hpx, hx⟩ => by
    subst ev
    refine ⟨Nat.zero_le _, fun q hq0 => ⟨by rw [sizeLine_eq]; simp, fun r hr0 => ?_⟩⟩
    exact ⟨r, [.ref p, .ref q], rfl, st_of upd_same, rfl, .ref p, [.ref q], rfl, .ref q, [], rfl, rfl, k p q xs H1 r e1 hp0 (hide_sub _ _ _ _ hpx) hx hq0 hr0⟩
theorem ed_rdLI {d : List Int} {k : Nat} (hi : σ[i]? = some (some (.ref p))) (h : LI K M H p R) (hk : R[k]? = some d) (hb : ED K M tb σ H (.int (k : Int))) : ED K M (tOp (rIxL K) (tVar i) tb) σ H (dI d) := by
  obtain ⟨xs, h1, h2⟩ := h
  exact ed_rdV hi h1 h2 (by rw [List.getElem?_map, hk]; rfl) hb
theorem LI.len (h : LI K M H p R) : ∃ xs, H p = some (.lst xs) ∧ xs.length = R.length := by
  obtain ⟨xs, h1, h2⟩ := h
  exact ⟨xs, h1, by rw [dpAll_len h2, List.length_map]⟩
/-- rest[k] = r -/
theorem s_setLI {k : Nat} {r : List Int} (hM : MOk M H) (h : LI K M H p R) (hp : p ∈ M) (hi : σ[i]? = some (some (.ref p))) (hj : σ[j]? = some (some (.int (k : Int)))) (hk : k < R.length) (he : ED K M te σ H (dI r))
    (c : ∀ H1 o, Ex H H1 → LI K M (upd H1 p o) p (R.set k r) → D.nx σ (upd H1 p o)) : tAsg te (gSub (tVar i) (tVar j) rSetL) D σ H := by
  obtain ⟨xs, h1, h2⟩ := h
  refine s_setL hM h1 hi hj (by rw [dpAll_len h2, List.length_map]; exact hk) he.eg fun v H1 e1 hv => c H1 _ e1 ⟨_, upd_same, ?_⟩
  rw [hide_upd hp, List.map_set]
  exact dpAll_set k (h2.mono (hide_ex e1)) hv
theorem LI.dp (h : LI K (p :: M) H p R) (hp : p ∉ M) : Dp K (hide M H) (.ref p) (.list (R.map dI)) := by
  obtain ⟨xs, h1, h2⟩ := h
  exact .lst (sq_of (by rw [hide_out hp]; exact h1)) (h2.mono (hide_less fun a ha => List.mem_cons_of_mem _ ha))
/-- rest[k] = .., the list itself being read -/
theorem s_setLI2 {k : Nat} {r : List Int} (hM : MOk (p :: M) H) (h : LI K (p :: M) H p R) (hi : σ[i]? = some (some (.ref p))) (hj : σ[j]? = some (some (.int (k : Int)))) (hk : k < R.length) (he : ED K M te σ H (dI r))
    (c : ∀ H1 o, Ex H H1 → LI K (p :: M) (upd H1 p o) p (R.set k r) → D.nx σ (upd H1 p o)) : tAsg te (gSub (tVar i) (tVar j) rSetL) D σ H := by
  obtain ⟨xs, h1, h2⟩ := h
  have hl : k < xs.length := by rw [dpAll_len h2, List.length_map]; exact hk
  refine s_setL (M := M) (fun a ha => hM a (by simp [ha])) h1 hi hj hl he.eg fun v H1 e1 hv => c H1 _ e1 ⟨_, upd_same, ?_⟩
  rw [hide_upd (by simp), List.map_set]
  have h21 := h2.mono (hide_ex (M := p :: M) e1)
  have h11 := e1 p _ h1
  refine dpAll_set k h21 ?_
  cases R with
  | nil => simp at hk
  | cons r0 R =>
    cases h2 with
    | cons a b =>
      obtain ⟨y, _, rfl, _, _⟩ := dp_lst a
      exact dI_hide (x := y) hv h11
theorem ed_takeI {r : List Int} {k : Nat} {th : TE} (h : ED K M te σ H (dI r)) (hM : MOk M H) (hk : ∀ H1, Ex H H1 → ED K M th σ H1 (.int (k : Int))) : ED K M (L2.tSl (rSlL K) te tNoPart (tPart th)) σ H (dI (r.take k)) :=
  EG.dl ((eg_slL (EG.l h) (fun _ _ => eo_none) fun H1 e1 => eo_some (hM.ex e1) (hk H1 e1)).to (by rw [cutT_up, List.map_map, List.map_map, List.map_take]))
theorem ed_dropI {r : List Int} {k : Nat} {th : TE} (h : ED K M te σ H (dI r)) (hM : MOk M H) (hk : ∀ H1, Ex H H1 → ED K M th σ H1 (.int (k : Int))) : ED K M (L2.tSl (rSlL K) te (tPart th) tNoPart) σ H (dI (r.drop k)) :=
  EG.dl ((eg_slL (EG.l h) (fun H1 e1 => eo_some (hM.ex e1) (hk H1 e1)) (fun _ _ => eo_none)).to (by rw [cutT_from, List.map_map, List.map_map, List.map_drop]))
theorem ed_catI {a b : List Int} (hl : a.length + b.length ≤ 100000) (ha : ED K M ta σ H (dI a)) (hb : ED K M tb σ H (dI b)) : ED K M (tOp (rCatS K) ta tb) σ H (dI (a ++ b)) :=
  EG.dl ((eg_catL (K := K) (by simp; omega) (EG.l ha) (EG.l hb)).to (by rw [List.map_append, List.map_append]))
theorem ed_lcI1 {i : Nat} {vs : List Nat} {r : List Int} (h : ED K M ta σ H (dI r)) (hl : r.length ≤ 90000) (f : Int → Int) (hw : ∀ x, wipe ((wipe σ vs).set i (some x)) vs = wipe σ vs)
    (he : ∀ M' H' a, Ex (hide M H) (hide M' H') → MOk M' H' → a ∈ r → ED K M' te ((wipe σ vs).set i (some (.int a))) H' (.int (f a))) :
    ED K M (tLc (iList K ta) (gName i) tYes te vs) σ H (dI (r.map f)) :=
  (ed_lcL1 (K := K) (src := r) (g := fun a => .int a) (f := fun a => .int (f a)) h hl hw fun M' H' x a ex hM' ha hx => by
    cases dp_int hx
    exact he M' H' a ex hM' ha).to (by rw [dI, List.map_map]; rfl)
theorem s_appLI {r : List Int} (hM : MOk M H) (h : LI K M H p R) (hp : p ∈ M) (hi : σ[i]? = some (some (.ref p))) (hk : R.length < 1000) (he : ED K M te σ H (dI r))
    (c : ∀ H1 o, Ex H H1 → LI K M (upd H1 p o) p (R ++ [r]) → D.nx σ (upd H1 p o)) : tDrop (tBM K "list" rAppend (tVar i) (tCons te tNil)) D σ H := by
  obtain ⟨xs, h1, h2⟩ := h
  refine s_append hM h1 hi he.eg (by rw [dpAll_len h2, List.length_map]; omega) fun v H1 e1 hv => c H1 _ e1 ⟨_, upd_same, ?_⟩
  rw [hide_upd hp, List.map_append]
  exact dpAll_app (h2.mono (hide_ex e1)) (dpAll_one hv)
end
section
variable {w : World} {K : PySem.W.Frag} {mg : Str → Option Value} {base : Heap}
abbrev N_law_hermite : List Str := ["_law_modulus", "_law_width", "_law_vectors_here", "_law_rest", "_law_rows", "_law_vector_here", "_law_index", "_law_pivot", "_law_at", "_law_row", "_law_k", "_law_times", "_law_left", "_law_later", "_law_entry"]
theorem sc_law_hermite : FnScope N_law_hermite ["_law_modulus", "_law_width", "_law_vectors_here"] d_law_hermite.scope := ⟨rfl, rfl, rfl, by decide +kernel, rfl, by decide +kernel, by decide +kernel⟩
theorem bi_law_hermite (kV doc pm : Value) (an : Option Addr) (cdv ct : Value) (us : List Value) (hl : us.length = 3) : bindArgs (PySem.W.fnOf d_law_hermite.name d_law_hermite.qual d_law_hermite.params d_law_hermite.body d_law_hermite.scope .none kV doc pm an cdv ct) ⟨us, []⟩ = pure ((["_law_modulus", "_law_width", "_law_vectors_here"] : List Str).zip us) := by
  match us, hl with
  | [_, _, _], _ => rfl

def HerOk (m n : Nat) (vs : List (List Int)) (L : WM.Pv) : Prop := WM.Tab m n L ∧ ∀ f, WM.In m (WM.Gen L) f ↔ WM.In m (WM.GenV vs) f
def R_law_hermite (K : PySem.W.Frag) (Ts : List Ty) (T : Ty) : Prop := ∃ (m n : Nat) (vs : List (List Int)), Ts = [tI K m, tI K n, dat K (dL vs)] ∧ 2 ≤ m ∧ m ≤ 60 ∧ 1 ≤ n ∧ n ≤ 6 ∧ vs.length ≤ 100 ∧ (∀ v ∈ vs, WM.Vec m n v) ∧ T = tyEx (HerOk m n vs) (fun L => dat K (dL (L.map Prod.snd)))
theorem cal_law_hermite (G : Glb w K mg base) : C8.Cal PP w K mg base 1 "_law_hermite" (SpT (R_law_hermite K)) [] :=
  cal_mk G 65 (d := d_law_hermite) rfl rfl G.g_law_hermite rfl sc_law_hermite (spT_len fun Ts T ⟨_, _, _, h, _⟩ => by rw [h]; rfl) bi_law_hermite (fun f cdv A outer s H vs0 Q E hr hsp => by
    obtain ⟨M, Ts, T, hM, hv, ⟨m, n, vs, rfl, hm, hm2, hn, hn2, hvl, hvs, rfl⟩, hq⟩ := hsp
    obtain ⟨v1, v2, v3, rfl, h1, h2, h3⟩ := allT3 hv
    cases dp_int h1
    cases dp_int h2
    have hm0 : (0 : Int) < m := by omega
    refine ⟨_, (pss_cons (ps_asg (pe_tup (pa_cons (pe_lc (own := [("_law_vector_here", 5)]) (g := (gName 5)) (tt := tYes) rfl sc_law_hermite.nd (pi_list (pv 2)) (blkOk_by (N := N_law_hermite) (sc := d_law_hermite.scope) (by decide +kernel)) (fun _ _ _ _ _ => (pg_name (i := 5) sc_law_hermite.nd rfl (by first | exact Or.inl rfl | exact Or.inr rfl))) (fun _ _ _ _ _ => pts_nil) (fun _ _ _ _ _ => (pe_callTy (T := "list") (call_list_ofK (K := K) rfl) (by rfl) G.f_list (by decide +kernel) (pa_cons (pv 5) pa_nil)))) (pa_cons (pe_lst pa_nil) pa_nil))) (pg_tup rfl (pgs_cons (pg_name (i := 3) sc_law_hermite.nd rfl (by first | exact Or.inl rfl | exact Or.inr rfl)) (pgs_cons (pg_name (i := 4) sc_law_hermite.nd rfl (by first | exact Or.inl rfl | exact Or.inr rfl)) pgs_nil))))
      (pss_cons (ps_for PassesOwn.never rfl (pi_range1 (by rfl) G.f_range (pa_cons (pv 1) pa_nil)) (pg_name (i := 6) sc_law_hermite.nd rfl (by first | exact Or.inl rfl | exact Or.inr rfl)) (pss_cons (ps_set (i := 7) sc_law_hermite.nd rfl (by first | exact Or.inl rfl | exact Or.inr rfl) (pe_lc (own := [("_law_k", 10)]) (g := (gName 10)) (tt := tYes) rfl sc_law_hermite.nd (pi_range1 (by rfl) G.f_range (pa_cons (pv 1) pa_nil)) (blkOk_by (N := N_law_hermite) (sc := d_law_hermite.scope) (by decide +kernel)) (fun _ _ _ _ _ => (pg_name (i := 10) sc_law_hermite.nd rfl (by first | exact Or.inl rfl | exact Or.inr rfl))) (fun _ _ _ _ _ => pts_nil) (fun _ _ _ _ _ => (pe_op op_mul (pv 0) (pe_callTy (T := "int") call_int1 (by rfl) G.f_int (by decide +kernel) (pa_cons (pe_cmpR op_eq (pv 10) (pv 6) (nomark _)) pa_nil))))))
      (pss_cons (ps_for PassesOwn.never rfl (pi_range1 (by rfl) G.f_range (pa_cons (pe_callB (id := "len") call_len (by rfl) G.f_len (by decide +kernel) (pa_cons (pv 3) pa_nil)) pa_nil)) (pg_name (i := 8) sc_law_hermite.nd rfl (by first | exact Or.inl rfl | exact Or.inr rfl)) (pss_cons (ps_set (i := 9) sc_law_hermite.nd rfl (by first | exact Or.inl rfl | exact Or.inr rfl) (pe_ix ix_list (pv 3) (pv 8) (fun _ _ => rfl)))
      (pss_cons (ps_while PassesOwn.never (pt_cmpR op_ne (pe_ix ix_list (pv 9) (pv 6) (fun _ _ => rfl)) pe_int (nomark _)) (pss_cons (ps_set (i := 11) sc_law_hermite.nd rfl (by first | exact Or.inl rfl | exact Or.inr rfl) (pe_op op_fdiv (pe_ix ix_list (pv 7) (pv 6) (fun _ _ => rfl)) (pe_ix ix_list (pv 9) (pv 6) (fun _ _ => rfl))))
      (pss_cons (ps_setLc (i := 12) (own := [("_law_k", 10)]) (g := (gName 10)) (tt := tYes) rfl sc_law_hermite.nd rfl rfl (sw_true rfl rfl rfl (by decide +kernel)) (pi_range1 (by rfl) G.f_range (pa_cons (pv 1) pa_nil)) (blkOk_by (N := N_law_hermite) (sc := d_law_hermite.scope) (by decide +kernel)) (fun _ _ _ _ _ => (pg_name (i := 10) sc_law_hermite.nd rfl (by first | exact Or.inl rfl | exact Or.inr rfl))) (fun _ _ _ _ _ => pts_nil) (fun _ _ _ _ _ => (pe_op op_mod (pe_op op_sub (pe_ix (ix_listK (K := K) rfl) (pv 7) (pv 10) (fun _ _ => rfl)) (pe_op op_mul (pv 11) (pe_ix (ix_listK (K := K) rfl) (pv 9) (pv 10) (fun _ _ => rfl)))) (pv 0))))
      (pss_one (ps_asg (pe_tup (pa_cons (pv 9) (pa_cons (pv 12) pa_nil))) (pg_tup rfl (pgs_cons (pg_name (i := 7) sc_law_hermite.nd rfl (by first | exact Or.inl rfl | exact Or.inr rfl)) (pgs_cons (pg_name (i := 9) sc_law_hermite.nd rfl (by first | exact Or.inl rfl | exact Or.inr rfl)) pgs_nil))))))))
      (pss_one (ps_asg (pv 9) (pg_sub (pv 3) (pv 8) set_list))))))
      (pss_one (ps_expr (pe_bm PySem.F.plainAttrs_list PySem.F.slot_list_append PySem.F.type_list_append mt_append (pv 4) (pa_cons (pv 7) pa_nil)))))))
      (pss_cons (ps_for PassesOwn.never rfl (pi_range1 (by rfl) G.f_range (pa_cons (pv 1) pa_nil)) (pg_name (i := 6) sc_law_hermite.nd rfl (by first | exact Or.inl rfl | exact Or.inr rfl)) (pss_one (ps_for PassesOwn.never rfl (pi_range2 (by rfl) G.f_range (pa_cons (pe_op op_add (pv 6) pe_int) (pa_cons (pv 1) pa_nil))) (pg_name (i := 13) sc_law_hermite.nd rfl (by first | exact Or.inl rfl | exact Or.inr rfl)) (pss_cons (ps_set (i := 11) sc_law_hermite.nd rfl (by first | exact Or.inl rfl | exact Or.inr rfl) (pe_op op_fdiv (pe_ix ix_list (pe_ix ix_list (pv 4) (pv 6) (fun _ _ => rfl)) (pv 13) (fun _ _ => rfl)) (pe_ix ix_list (pe_ix ix_list (pv 4) (pv 13) (fun _ _ => rfl)) (pv 13) (fun _ _ => rfl))))
      (pss_cons (ps_asg (pe_lc (own := [("_law_k", 10)]) (g := (gName 10)) (tt := tYes) rfl sc_law_hermite.nd (pi_range1 (by rfl) G.f_range (pa_cons (pv 1) pa_nil)) (blkOk_by (N := N_law_hermite) (sc := d_law_hermite.scope) (by decide +kernel)) (fun _ _ _ _ _ => (pg_name (i := 10) sc_law_hermite.nd rfl (by first | exact Or.inl rfl | exact Or.inr rfl))) (fun _ _ _ _ _ => pts_nil) (fun _ _ _ _ _ => (pe_op op_sub (pe_ix (ix_listK (K := K) rfl) (pe_ix (ix_listK (K := K) rfl) (pv 4) (pv 6) (fun _ _ => rfl)) (pv 10) (fun _ _ => rfl)) (pe_op op_mul (pv 11) (pe_ix (ix_listK (K := K) rfl) (pe_ix (ix_listK (K := K) rfl) (pv 4) (pv 13) (fun _ _ => rfl)) (pv 10) (fun _ _ => rfl)))))) (pg_sub (pv 4) (pv 6) set_list))
      (pss_one (ps_asg (pe_op op_catS (pe_slice (sl_listK (K := K) rfl) (pe_ix ix_list (pv 4) (pv 6) (fun _ _ => rfl)) po_none (po_some (pe_op op_add (pv 13) pe_int))) (pe_lc (own := [("_law_entry", 14)]) (g := (gName 14)) (tt := tYes) rfl sc_law_hermite.nd (pi_list (pe_slice (sl_listK (K := K) rfl) (pe_ix ix_list (pv 4) (pv 6) (fun _ _ => rfl)) (po_some (pe_op op_add (pv 13) pe_int)) po_none)) (blkOk_by (N := N_law_hermite) (sc := d_law_hermite.scope) (by decide +kernel)) (fun _ _ _ _ _ => (pg_name (i := 14) sc_law_hermite.nd rfl (by first | exact Or.inl rfl | exact Or.inr rfl))) (fun _ _ _ _ _ => pts_nil) (fun _ _ _ _ _ => (pe_op op_mod (pv 14) (pv 0))))) (pg_sub (pv 4) (pv 6) set_list))))))))
      (pss_one (ps_ret (pe_lc (own := [("_law_k", 10)]) (g := (gName 10)) (tt := _) rfl sc_law_hermite.nd (pi_range1 (by rfl) G.f_range (pa_cons (pv 1) pa_nil)) (blkOk_by (N := N_law_hermite) (sc := d_law_hermite.scope) (by decide +kernel)) (fun _ _ _ _ _ => (pg_name (i := 10) sc_law_hermite.nd rfl (by first | exact Or.inl rfl | exact Or.inr rfl))) (fun _ _ _ _ _ => (pts_one (pt_cmpR op_lt (pe_ix (ix_listK (K := K) rfl) (pe_ix (ix_listK (K := K) rfl) (pv 4) (pv 10) (fun _ _ => rfl)) (pv 10) (fun _ _ => rfl)) (pv 0) (nomark _)))) (fun _ _ _ _ _ => (pe_callTy (T := "tuple") (call_tuple_ofK (K := K) rfl) (by rfl) G.f_tuple (by decide +kernel) (pa_cons (pe_ix (ix_listK (K := K) rfl) (pv 4) (pv 10) (fun _ _ => rfl)) pa_nil))))))))), ?_⟩
    refine s_pairNew hM (eg_lcN (src := vs) (ty := fun v => dat K (dV v)) (ei_ld (ed_var rfl h3)) (by omega) (fun _ => true) (fun v => dat K (dI v)) fun M' H' x v i ex hM' hi hx => turn_name rfl et_yes fun _ => (ed_listOfV (K := K) (ed_var rfl hx)).eg) fun p q xs H1 r e1 hp0 hpx hx hq0 hr0 => ?_
    rw [filt_all] at hx
    have hx := AllT.dpf hx
    dsimp only
    have hqp : q ≠ p := fun z => by rw [z, hpx] at hq0; cases hq0
    have f1 : Fr [] M H (p :: M) H1 := ((Fr.refl hM).gex e1).adopt hp0 hpx
    have f2 : Fr [] M H (q :: p :: M) (upd (upd H1 q (.lst [])) r (.tup [.ref p, .ref q])) := (f1.new hq0).gex (Ex.new hr0)
    have l1 : LI K (q :: p :: M) (upd (upd H1 q (.lst [])) r (.tup [.ref p, .ref q])) p vs := by
      refine ⟨xs, Ex.new hr0 _ _ (by rw [upd_ne hqp.symm]; exact hpx), ?_⟩
      exact (dIs_hide hpx hx).mono (((hide_cons hq0).trans (hide_ex (Ex.new hq0))).trans (hide_ex (Ex.new hr0)))
    have l2 : LI K (q :: p :: M) (upd (upd H1 q (.lst [])) r (.tup [.ref p, .ref q])) q [] := ⟨[], Ex.new hr0 _ _ upd_same, .nil⟩
    have h33 := Dp.mono h3 f2.vis
    have hq0' : H q = none := none_of e1 hq0
    generalize upd (upd H1 q (.lst [])) r (.tup [.ref p, .ref q]) = H2 at f2 l1 l2 h33
    have hpM : p ∈ q :: p :: M := by simp
    have hqM : q ∈ q :: p :: M := by simp
    -- the pivots
    refine s_for f2.ok (ei_r1 (K := K) (n := n) (by omega) (ea_one (ed_varI rfl))) (q :: p :: M) (fun HH i σ' H' => ∃ y5 y6 y7 y8 y9 y10 y11 y12 y13 y14 R ps, σ' = [some (.int (m : Int)), some (.int (n : Int)), some v3, some (.ref p), some (.ref q), y5, y6, y7, y8, y9, y10, y11, y12, y13, y14] ∧ Fr [q, p] (q :: p :: M) HH (q :: p :: M) H' ∧ LI K (q :: p :: M) H' p R ∧ LI K (q :: p :: M) H' q ps ∧ R.length = vs.length ∧ ps.length = i ∧ WM.Rest m n vs i R ∧ ∀ k, k < i → WM.HR m n vs k (WM.rowAt ps k)) (fun HH i σ' H' e ⟨_, _, _, _, _, _, _, _, _, _, _, _, _, fr, _⟩ => ⟨fr.vis, fr.ok⟩) (fun HH e => ⟨_, _, _, _, _, _, _, _, _, _, vs, [], rfl, Fr.refl1 (f2.ok.ex e), l1.ex e, l2.ex e, rfl, rfl, WM.Rest.start hvs, fun k hk => absurd hk (Nat.not_lt_zero k)⟩) ?_ ?_
    · rintro HH i a x σ' H' H3 e hi ⟨y5, y6, y7, y8, y9, y10, y11, y12, y13, y14, R, ps, rfl, fr, lR, lP, hRl, hPl, hRest, hHR⟩ e2 hx
      obtain ⟨hi1, hi2⟩ := List.getElem?_eq_some_iff.mp hi
      simp at hi1 hi2
      subst hi2
      cases dp_int hx
      dsimp only
      have fr3 := fr.gex e2
      refine sd_set (K := K) (d := dI (WM.pivE m n i)) fr3.ok ((ed_lcR1 (K := K) (n := n) (ea_one (ed_varI rfl)) (by omega) (fun k => .int ((m : Int) * (if k = i then 1 else 0))) (fun _ => rfl) fun M' H4 k ex hM' hk => ?_).to (by rw [dI, WM.pivE, List.map_map]; rfl)) fun vp H4 e4 hvp => ?_
      · have := ed_intB (K := K) (M := M') (H := H4) (σ := [some (.int (m : Int)), some (.int (n : Int)), some v3, some (.ref p), some (.ref q), y5, some (.int (i : Int)), y7, y8, y9, some (.int (k : Int)), y11, y12, y13, y14]) (ed_eqI (ed_varI (k := 10) rfl) (ed_varI (k := 6) rfl))
        have e2 : (if (decide ((k : Int) = i)) = true then (1 : Int) else 0) = if k = i then 1 else 0 := by
          by_cases z : k = i
          · simp [z]
          · have : ¬ (k : Int) = i := by omega
            simp [z, this]
        rw [e2] at this
        exact ed_mul (cmulL (by omega)) (ed_varI rfl) this
      dsimp only
      have fr4 := fr3.gex e4
      have lR4 := (lR.ex e2).ex e4
      have lP4 := (lP.ex e2).ex e4
      obtain ⟨zs, hz1, hz2⟩ := lR4.len
      refine s_for fr4.ok (ei_r1 (K := K) (n := R.length) (by omega) (ea_one ((ed_lenR hz1 (eg_var rfl rfl)).to (by rw [hz2])))) (q :: p :: M) (fun H5 j σ' H' => ∃ z8 z9 z10 z11 z12 vp pv D U, σ' = [some (.int (m : Int)), some (.int (n : Int)), some v3, some (.ref p), some (.ref q), y5, some (.int (i : Int)), some vp, z8, z9, z10, z11, z12, y13, y14] ∧ Fr [q, p] (q :: p :: M) H5 (q :: p :: M) H' ∧ LI K (q :: p :: M) H' p (D ++ U) ∧ LI K (q :: p :: M) H' q ps ∧ D.length = j ∧ (D ++ U).length = R.length ∧ Dp K (hide (q :: p :: M) H') vp (dI pv) ∧ WM.Mid m n vs i pv D U) (fun HH i σ' H' e ⟨_, _, _, _, _, _, _, _, _, _, fr, _⟩ => ⟨fr.vis, fr.ok⟩) (fun H5 e5 => ⟨_, _, _, _, _, vp, _, [], R, rfl, Fr.refl1 (fr4.ok.ex e5), lR4.ex e5, lP4.ex e5, rfl, rfl, Dp.mono hvp (hide_ex e5), WM.Mid.start hm0 hi1 hRest⟩) ?_ ?_
      · rintro H5 j a x σ' H' H6 e5 hj ⟨z8, z9, z10, z11, z12, vp, pv, D, U, rfl, fr5, lR5, lP5, hD, hDU, hvp, hmid⟩ e6 hx
        obtain ⟨hj1, hj2⟩ := List.getElem?_eq_some_iff.mp hj
        simp at hj1 hj2
        subst hj2
        cases dp_int hx
        dsimp only
        have fr6 := fr5.gex e6
        have lR6 := lR5.ex e6
        have lP6 := lP5.ex e6
        have hvp6 := hvp.mono (hide_ex (M := q :: p :: M) e6)
        rw [List.length_append] at hDU
        cases U with
        | nil => simp at hDU; omega
        | cons r0 U =>
        have hgr : (D ++ r0 :: U)[j]? = some r0 := by rw [List.getElem?_append_right (by omega), hD, Nat.sub_self]; rfl
        refine sd_set (K := K) (d := dI r0) fr6.ok (ed_rdLI rfl lR6 hgr (ed_varI rfl)) fun vr H7 e7 hvr => ?_
        dsimp only
        have fr7 := fr6.gex e7
        refine s_while (fun mm σ' H' => ∃ z10 z11 z12 vp vr pv rv, σ' = [some (.int (m : Int)), some (.int (n : Int)), some v3, some (.ref p), some (.ref q), y5, some (.int (i : Int)), some vp, some (.int (j : Int)), some vr, z10, z11, z12, y13, y14] ∧ Fr [q, p] (q :: p :: M) H5 (q :: p :: M) H' ∧ LI K (q :: p :: M) H' p (D ++ r0 :: U) ∧ LI K (q :: p :: M) H' q ps ∧ Dp K (hide (q :: p :: M) H') vp (dI pv) ∧ Dp K (hide (q :: p :: M) H') vr (dI rv) ∧ WM.Euc m n vs i pv rv D U ∧ mm = (WM.at_ rv i).toNat) (WM.at_ r0 i).toNat ⟨_, _, _, vp, vr, pv, r0, rfl, fr7, lR6.ex e7, lP6.ex e7, hvp6.mono (hide_ex e7), hvr, hmid.euc, rfl⟩ ?_
        rintro mm σ' H' ⟨z10, z11, z12, vp, vr, pv, rv, rfl, fr8, lR8, lP8, hvp8, hvr8, heuc, rfl⟩
        have hrl : i < rv.length := by rw [heuc.rv.len]; exact hi1
        have hpl : i < pv.length := by rw [heuc.pv.len]; exact hi1
        refine ⟨q :: p :: M, _, fr8.ok, et_test (ed_neI (ed_atL (u := rv) hrl (ed_var rfl hvr8) (ed_varI rfl)) ed_int), fun hb H9 e9 => ?_, fun hb H9 e9 => ?_⟩
        · simp at hb
          have fr9 := fr8.gex e9
          have hri := heuc.rv.at hm0 i
          have hpi := heuc.pv.le
          have hp0' := heuc.pv.pos
          have hrp : 0 < WM.at_ rv i := by omega
          obtain ⟨hstep, hs1, hs2⟩ := heuc.step hm0 hi1 hb
          have hvp9 := hvp8.mono (hide_ex (M := q :: p :: M) e9)
          have hvr9 := hvr8.mono (hide_ex (M := q :: p :: M) e9)
          refine sd_set (K := K) (d := .int (WM.at_ pv i / WM.at_ rv i)) fr9.ok (ed_fdiv ⟨hrp, by omega⟩ (ed_atL hpl (ed_var rfl hvp9) (ed_varI rfl)) (ed_atL hrl (ed_var rfl hvr9) (ed_varI rfl))) fun vt H10 e10 ht => ?_
          cases dp_int ht
          dsimp only
          have hvp10 := hvp9.mono (hide_ex (M := q :: p :: M) e10)
          have hvr10 := hvr9.mono (hide_ex (M := q :: p :: M) e10)
          have ht0 : 0 ≤ WM.at_ pv i / WM.at_ rv i := Int.ediv_nonneg (by omega) (by omega)
          have ht1 : WM.at_ pv i / WM.at_ rv i ≤ WM.at_ pv i := Int.ediv_le_self _ (by omega)
          refine sd_set (K := K) (d := dI (WM.comb m 1 pv (-(WM.at_ pv i / WM.at_ rv i)) rv)) (fr9.gex e10).ok ((ed_lcRZ (K := K) (n := n) heuc.pv.len heuc.rv.len (ea_one (ed_varI rfl)) (by omega) (fun a b => (a - WM.at_ pv i / WM.at_ rv i * b) % m) (fun _ => rfl) fun M' H11 a ex hM' ha => ?_).to (by rw [WM.zip_comb'])) fun vl H11 e11 hvl => ?_
          · exact ed_mod hm0 (ed_sub (ed_atL (by rw [heuc.pv.len]; exact ha) (ed_var rfl (hvp10.mono ex)) (ed_varI rfl)) (ed_mul (cmulL (by omega)) (ed_varI rfl) (ed_atL (by rw [heuc.rv.len]; exact ha) (ed_var rfl (hvr10.mono ex)) (ed_varI rfl)))) (ed_varI rfl)
          dsimp only
          have fr11 := (fr9.gex e10).gex e11
          refine sg_bind fr11.ok (ed_tup (K := K) (ds := [dI rv, dI (WM.comb m 1 pv (-(WM.at_ pv i / WM.at_ rv i)) rv)]) (by simp) (ea_cons (ed_var rfl (hvr10.mono (hide_ex e11))) (ea_one (ed_var rfl hvl)))).eg fun vv H12 e12 hvv => ?_
          refine g_tup2 (K := K) hvv fun y z hy hz => ?_
          dsimp only
          have e812 := ((e9.trans e10).trans e11).trans e12
          exact ⟨_, by omega, _, _, _, y, z, _, _, rfl, fr8.gex e812, lR8.ex e812, lP8.ex e812, hy, hz, hstep, rfl⟩
        · simp at hb
          have fr9 := fr8.gex e9
          refine s_setLI (K := K) (M := q :: p :: M) (R := D ++ r0 :: U) (k := j) (r := rv) fr9.ok (lR8.ex e9) hpM rfl rfl (by simp; omega) (ed_var rfl (hvr8.mono (hide_ex e9))) fun H10 o e10 l10 => ?_
          have hset : (D ++ r0 :: U).set j rv = (D ++ [rv]) ++ U := by
            rw [List.set_append_right _ _ (by omega), hD, Nat.sub_self]
            simp
          rw [hset] at l10
          refine ⟨_, _, _, _, _, vp, pv, D ++ [rv], U, rfl, (fr9.gex e10).upd hpM (.inl (by simp)), l10, ((lP8.ex e9).ex e10).other hpM hqp, by simp [hD], ?_, ?_, heuc.mid hb⟩
          · simp at hDU ⊢; omega
          · rw [hide_upd hpM]
            exact (hvp8.mono (hide_ex e9)).mono (hide_ex e10)
      · rintro H5 σ' H' e5 ⟨z8, z9, z10, z11, z12, vp, pv, D, U, rfl, fr5, lR5, lP5, hD, hDU, hvp, hmid⟩
        rw [List.length_range] at hD
        have hU : U = [] := by
          rw [List.length_append] at hDU
          exact List.length_eq_zero_iff.mp (by omega)
        subst hU
        rw [List.append_nil] at lR5 hDU
        obtain ⟨hhr, hrest⟩ := hmid.done hm0 hi1
        dsimp only
        refine s_appLI (K := K) (M := q :: p :: M) (R := ps) fr5.ok lP5 hqM rfl (by omega) (ed_var rfl hvp) fun H6 o e6 l6 => ?_
        refine ⟨_, _, _, _, _, _, _, _, _, _, D, ps ++ [pv], rfl, ((fr4.trans (Fr.ofEx fr4.ok e5) fun _ h => .inl h).trans (fr5.gex e6) fun _ h => .inl h).upd hqM (.inl (by simp)), (lR5.ex e6).other hqM hqp.symm, l6, by omega, by simp [hPl], hrest, fun k hk => ?_⟩
        rw [WM.rowAt_app, hPl]
        split
        · exact hHR k (by omega)
        · have : k = i := by omega
          subst this
          rw [if_pos rfl]
          exact hhr
    · rintro HH σ' H' e ⟨y5, y6, y7, y8, y9, y10, y11, y12, y13, y14, R, ps, rfl, fr, lR, lP, hRl, hPl, hRest, hHR⟩
      rw [List.length_range] at hPl hHR
      dsimp only
      have frA : Fr [q, p] (q :: p :: M) H2 (q :: p :: M) H' := (Fr.ofEx f2.ok e).trans fr fun _ h => .inl h
      have hqM0 : q ∉ p :: M := by
        simp
        exact ⟨hqp, hM.new hq0'⟩
      clear fr lR hRest
      -- the rows are reduced
      refine s_for frA.ok (ei_r1 (K := K) (n := n) (by omega) (ea_one (ed_varI rfl))) (q :: p :: M) (fun HH i σ' H' => ∃ y5 y6 y7 y8 y9 y10 y11 y12 y13 y14 ps, σ' = [some (.int (m : Int)), some (.int (n : Int)), some v3, some (.ref p), some (.ref q), y5, y6, y7, y8, y9, y10, y11, y12, y13, y14] ∧ Fr [q, p] (q :: p :: M) HH (q :: p :: M) H' ∧ LI K (q :: p :: M) H' q ps ∧ ps.length = n ∧ ∀ k, k < n → WM.HR m n vs k (WM.rowAt ps k)) (fun HH i σ' H' e ⟨_, _, _, _, _, _, _, _, _, _, _, _, fr, _⟩ => ⟨fr.vis, fr.ok⟩) (fun HH e => ⟨_, _, _, _, _, _, _, _, _, _, ps, rfl, Fr.refl1 (frA.ok.ex e), lP.ex e, hPl, hHR⟩) ?_ ?_
      · rintro HH i a x σ' H' H3 e hi ⟨y5, y6, y7, y8, y9, y10, y11, y12, y13, y14, ps, rfl, fr, lP, hPl, hHR⟩ e2 hx
        obtain ⟨hi1, hi2⟩ := List.getElem?_eq_some_iff.mp hi
        simp at hi1 hi2
        subst hi2
        cases dp_int hx
        dsimp only
        have fr3 := fr.gex e2
        refine s_for fr3.ok (ei_r2 (K := K) (lo := (i : Int) + 1) (hi := n) (by omega) (by omega) (ea_cons (ed_add (ed_varI rfl) ed_int) (ea_one (ed_varI rfl)))) (q :: p :: M) (fun HH j σ' H' => ∃ y5 y7 y8 y9 y10 y11 y12 y13 y14 ps, σ' = [some (.int (m : Int)), some (.int (n : Int)), some v3, some (.ref p), some (.ref q), y5, some (.int (i : Int)), y7, y8, y9, y10, y11, y12, y13, y14] ∧ Fr [q, p] (q :: p :: M) HH (q :: p :: M) H' ∧ LI K (q :: p :: M) H' q ps ∧ ps.length = n ∧ ∀ k, k < n → WM.HR m n vs k (WM.rowAt ps k)) (fun HH i σ' H' e ⟨_, _, _, _, _, _, _, _, _, _, _, fr, _⟩ => ⟨fr.vis, fr.ok⟩) (fun HH e => ⟨_, _, _, _, _, _, _, _, _, ps, rfl, Fr.refl1 (fr3.ok.ex e), (lP.ex e2).ex e, hPl, hHR⟩) ?_ ?_
        · rintro H5 j a x σ' H' H6 e5 hj ⟨y5, y7, y8, y9, y10, y11, y12, y13, y14, ps, rfl, fr5, lP5, hPl, hHR⟩ e6 hx
          obtain ⟨hj1, hj2⟩ := List.getElem?_eq_some_iff.mp hj
          simp at hj1 hj2
          subst hj2
          cases dp_int hx
          obtain ⟨l, hl⟩ : ∃ l : Nat, (i : Int) + 1 + (j : Int) = (l : Int) := ⟨i + 1 + j, by omega⟩
          rw [hl]
          have hln : l < n := by omega
          have hil : i < l := by omega
          dsimp only
          have fr6 := fr5.gex e6
          have lP6 := lP5.ex e6
          have hx1 := hHR i hi1
          have hx2 := hHR l hln
          obtain ⟨hnew, ht0, ht1⟩ := WM.her_red hm0 hx1 hx2 hil
          have hg1 : ps[i]? = some (WM.rowAt ps i) := WM.rowAt_some (by omega)
          have hg2 : ps[l]? = some (WM.rowAt ps l) := WM.rowAt_some (by omega)
          have hqle := Int.le_of_dvd hm0 hx2.dvd
          refine sd_set (K := K) (d := .int (WM.at_ (WM.rowAt ps i) l / WM.at_ (WM.rowAt ps l) l)) fr6.ok (ed_fdiv ⟨hx2.pos, by omega⟩ (ed_atL (by rw [hx1.len]; exact hln) (ed_rdLI rfl lP6 hg1 (ed_varI rfl)) (ed_varI rfl)) (ed_atL (by rw [hx2.len]; exact hln) (ed_rdLI rfl lP6 hg2 (ed_varI rfl)) (ed_varI rfl))) fun vt H7 e7 ht => ?_
          cases dp_int ht
          dsimp only
          have fr7 := fr6.gex e7
          have lP7 := lP6.ex e7
          have hxl := hx1.len
          have hyl := hx2.len
          unfold WM.redRow at hnew
          generalize WM.at_ (WM.rowAt ps i) l / WM.at_ (WM.rowAt ps l) l = t at hnew ht0 ht1
          have hzl : (List.zipWith (fun a b => a - t * b) (WM.rowAt ps i) (WM.rowAt ps l)).length = n := by simp [hxl, hyl]
          have hM0 : ∀ {H : Hp}, MOk (q :: p :: M) H → MOk (p :: M) H := fun h a ha => h a (by simp at ha ⊢; exact .inr ha)
          refine s_setLI2 (K := K) (M := p :: M) (R := ps) (k := i) (r := List.zipWith (fun a b => a - t * b) (WM.rowAt ps i) (WM.rowAt ps l)) fr7.ok lP7 rfl rfl (by omega) (ed_lcRZ (K := K) (n := n) hxl hyl (ea_one (ed_varI rfl)) (by omega) (fun a b => a - t * b) (fun _ => rfl) fun M' H8 a ex hM' ha => ?_) fun H8 o e8 l8 => ?_
          · have hd := (lP7.dp hqM0).mono ex
            exact ed_sub (ed_atL (by rw [hxl]; exact ha) (ed_ixL (ds := ps.map dI) (atI_nat' (by rw [List.getElem?_map, hg1]; rfl)) (ed_var rfl hd) (ed_varI rfl)) (ed_varI rfl)) (ed_mul (cmulL (by omega)) (ed_varI rfl) (ed_atL (by rw [hyl]; exact ha) (ed_ixL (ds := ps.map dI) (atI_nat' (by rw [List.getElem?_map, hg2]; rfl)) (ed_var rfl hd) (ed_varI rfl)) (ed_varI rfl)))
          have fr8 := (fr7.gex e8).upd (a := q) (o := o) hqM (.inl (by simp))
          dsimp only
          generalize upd H8 q o = H9 at fr8 l8
          have hg3 : (ps.set i (List.zipWith (fun a b => a - t * b) (WM.rowAt ps i) (WM.rowAt ps l)))[i]? = some (List.zipWith (fun a b => a - t * b) (WM.rowAt ps i) (WM.rowAt ps l)) := by
            rw [List.getElem?_set_self (by omega)]
          have rd : ∀ (τ : L2.St) H1, Ex H9 H1 → τ[4]? = some (some (.ref q)) → τ[6]? = some (some (.int (i : Int))) → ED K (p :: M) (tOp (rIxL K) (tVar 4) (tVar 6)) τ H1 (dI (List.zipWith (fun a b => a - t * b) (WM.rowAt ps i) (WM.rowAt ps l))) := fun τ H1 e1 t4 t6 => ed_ixL (ds := (ps.set i (List.zipWith (fun a b => a - t * b) (WM.rowAt ps i) (WM.rowAt ps l))).map dI) (atI_nat' (by rw [List.getElem?_map, hg3]; rfl)) (ed_var t4 (((l8.dp hqM0)).mono (hide_ex e1))) (ed_varI t6)
          refine s_setLI2 (K := K) (M := p :: M) (k := i) (r := (List.zipWith (fun a b => a - t * b) (WM.rowAt ps i) (WM.rowAt ps l)).take (l + 1) ++ ((List.zipWith (fun a b => a - t * b) (WM.rowAt ps i) (WM.rowAt ps l)).drop (l + 1)).map fun a : Int => a % (m : Int)) fr8.ok l8 rfl rfl (by rw [List.length_set]; omega) (ed_catI (by simp; omega) (ed_takeI (k := l + 1) (rd _ H9 (Ex.refl _) rfl rfl) (hM0 fr8.ok) fun H1 e1 => (ed_add (K := K) (ed_varI rfl) ed_int).to (by rw [Int.natCast_add]; rfl)) (ed_lcI1 (ed_dropI (k := l + 1) (rd _ H9 (Ex.refl _) rfl rfl) (hM0 fr8.ok) fun H1 e1 => (ed_add (K := K) (ed_varI rfl) ed_int).to (by rw [Int.natCast_add]; rfl)) (by rw [List.length_drop]; omega) (fun a : Int => a % (m : Int)) (fun _ => rfl) fun M' H' a ex hM' ha => ed_mod hm0 (ed_varI rfl) (ed_varI rfl))) fun H10 o2 e10 l10 => ?_
          rw [List.set_set] at l10
          refine ⟨_, _, _, _, _, _, _, _, _, _, rfl, (fr8.gex e10).upd hqM (.inl (by simp)), l10, by rw [List.length_set]; exact hPl, fun k hk => ?_⟩
          rw [WM.rowAt_set (by omega)]
          split
          · rename_i ek
            rw [ek]
            exact hnew
          · exact hHR k hk
        · rintro H5 σ' H' e5 ⟨y5, y7, y8, y9, y10, y11, y12, y13, y14, ps, rfl, fr5, lP5, hPl, hHR⟩
          exact ⟨_, _, _, _, _, _, _, _, _, _, ps, rfl, (fr3.trans (Fr.ofEx fr3.ok e5) fun _ h => .inl h).trans fr5 fun _ h => .inl h, lP5, hPl, hHR⟩
      · rintro HH σ' H' e5 ⟨y5, y6, y7, y8, y9, y10, y11, y12, y13, y14, ps, rfl, fr5, lP5, hPl, hHR⟩
        dsimp only
        have frB : Fr [q, p] (q :: p :: M) H2 (q :: p :: M) H' := (frA.trans (Fr.ofEx frA.ok e5) fun _ h => .inl h).trans fr5 fun _ h => .inl h
        have frC : Fr [] M H (q :: p :: M) H' := f2.trans frB fun a ha => by
          simp at ha
          rcases ha with z | z
          · rw [z]; exact .inr hq0'
          · rw [z]; exact .inr hp0
        have frD := frC.back (fun a ha => by simp [ha])
        have hd : Dp K (hide M H') (.ref q) (.list (ps.map dI)) := (lP5.dp hqM0).mono (hide_less fun a ha => by simp [ha])
        have htab := WM.her_tab hm0 hvs hHR
        refine sd_ret (K := K) (d := dL ((WM.herL m n (WM.rowAt ps)).map Prod.snd)) frD.ok ((ed_lcR (n := n) (ea_one (ed_varI rfl)) (by omega) (fun k => decide (WM.at_ (WM.rowAt ps k) k < m)) (fun k => dV (WM.rowAt ps k)) (fun _ => rfl) (fun M' H6 k ex hM' hk => ?_) fun M' H6 k ex hM' hk _ => ?_).to (by rw [WM.herL, List.map_map, dL, List.map_map]; rfl)) fun v H6 e6 hv => hq v H6 (frD.out.trans e6) ⟨_, htab, hv⟩
        · have hg : ps[k]? = some (WM.rowAt ps k) := WM.rowAt_some (by omega)
          exact et_test (ed_cmp (K := K) (ed_atL (by rw [(hHR k hk).len]; exact hk) (ed_ixL (ds := ps.map dI) (atI_nat' (by rw [List.getElem?_map, hg]; rfl)) (ed_var rfl (hd.mono ex)) (ed_varI rfl)) (ed_varI rfl)) (ed_varI rfl))
        · have hg : ps[k]? = some (WM.rowAt ps k) := WM.rowAt_some (by omega)
          exact ed_vec (ed_ixL (ds := ps.map dI) (atI_nat' (by rw [List.getElem?_map, hg]; rfl)) (ed_var rfl (hd.mono ex)) (ed_varI rfl)))
end
end WL
end
section
set_option Elab.async false
set_option linter.all false
set_option maxRecDepth 100000
set_option maxHeartbeats 4000000
/-! LayN: defs that call repr: nothing is being shown around them. -/
namespace WL
open PySem PySem.Spec PyProof.Rows L2 Evl HeadW
/-- a def's promise where nothing is being shown -/
structure FnG (P : Program) (w : World) (K : PySem.W.Frag) (mg : Str → Option Value) (base : Heap) (k : Nat) (f : Addr) (fd : FuncData) (ps : List Str) (sp : Sp) : Prop where
  len : ∀ vs H Q E, sp vs H Q E → vs.length = ps.length
  run : ∀ (A : Around) (outer : List Env) (s : Shared) (H : Hp) (args : Args) (us : List Value) (vs : List V) (Q : VK) (E : XK), Room k A → A.guards = some [] → Env0 P w K mg base A outer s H → BindsTo s fd args (ps.zip us) → Vals vs us → sp vs H Q E →
    codeAny (model P w) A (.call (.ref f) args) (CR C8.CX0 outer P w H s Q E) s
structure CalG (P : Program) (w : World) (K : PySem.W.Frag) (mg : Str → Option Value) (base : Heap) (k : Nat) (x : Str) (sp : Sp) : Prop where
  ex : ∃ (f : Addr) (fd : FuncData) (ps : List Str), FnG P w K mg base k f fd ps sp ∧ mg x = some (.ref f) ∧ PySem.W.keepIn K (.ref f) = true ∧ Binds K fd ps []
theorem deeper_guards {A : Around} {env : Env} : (A.deeper env).guards = A.guards := rfl
theorem fn_ofG {P : Program} {w : World} {K : PySem.W.Frag} {mg : Str → Option Value} {base : Heap} {k : Nat} {f : Addr} {name qual : Str} {params : Arguments} {body : List Stmt} {scope : Scope} {dV kV doc pm cdv ct oc : Value} {an od : Option Addr}
    {osl : Array (Option Value)} {N ps : List Str} {sp : Sp} (lk : K.lookup f = some ⟨oc, od, .func (PySem.W.fnOf name qual params body scope dV kV doc pm an cdv ct), osl⟩) (hcd : PySem.W.codeIn K cdv qual = true) (S : FnScope N ps scope)
    (len : ∀ vs H Q E, sp vs H Q E → vs.length = ps.length)
    (hbody : ∀ (A : Around) (outer : List Env) (s : Shared) (H : Hp) (vs : List V) (Q : VK) (E : XK), Room k (A.deeper (envOfC qual scope s.heap.objs.size f cdv)) → A.guards = some [] → sp vs H Q E →
      ∃ t, PSs (cxOf C8.CX0 P w K mg base N qual scope f cdv A outer s H E) body t ∧ t { nx := fun _ H' => Q .non H', rt := Q } (start N vs) H) :
    FnG P w K mg base (k + 1) f (PySem.W.fnOf name qual params body scope dV kV doc pm an cdv ct) ps sp :=
  ⟨len, fun A outer s H args us vs Q E room hg e0 bnd rel prom => by
    have stay : ∀ b o, base.get? b = some o → s.heap.get? b = some o := fun b o z => (e0.bs b o z).1
    have kin : K.In s.heap := e0.mod.kin.keeps stay
    have nolim : s.heap.NoLimit := e0.mod.nolimit.keeps stay
    have kinds : ∀ y ∈ ps.zip us, scope.names.lookup y.1 = some .local ∨ (scope.names.lookup y.1 = some .cell ∧ ((cellsFrom (s.heap.objs.size + 1) scope.names []).lookup y.1).isSome = true) := by
      intro y hy
      obtain ⟨nm, val⟩ := y
      have := S.par nm (List.of_mem_zip hy).1
      exact this.imp id fun c => ⟨c, PySem.W.cellsFrom_some _ _ _ (.inl c)⟩
    refine codeAny_call_function room.depth (kin _ _ lk) rfl S.co S.gen rfl (PySem.W.codeRec_of kin hcd) (bnd _ _ _ _ (wpAny_newFunctionEnv_cells S.kind kinds fun env he s1 x => ?_))
    subst he
    obtain ⟨t, walk, holds⟩ := hbody A outer s H vs Q E (room.deeper _) hg prom
    have inv : Inv (cxOf C8.CX0 P w K mg base N qual scope f cdv A outer s H E) [] (start N vs) H s1 := inv_start S room.hd e0 (len _ _ _ _ prom) rel x
    refine ⟨nolim.keeps x.toInCall.keep, codeAny_func (wpAny_mono (walk.run [] s1 (start N vs) H _ inv holds) (fun fl s2 out => ?_) fun _ _ out => out)⟩
    have done : ∀ {σ' : L2.St} {H' : Hp} {v : V} {u : Value}, Inv (cxOf C8.CX0 P w K mg base N qual scope f cdv A outer s H E) [] σ' H' s2 → RelV v u → Q v H' → CE outer P w H s Q u s2 := fun {_ _ _ _} J rv q => ⟨_, _, J.os, J.bare, J.base, J.hok, rv, q⟩
    match fl, out with
    | .ret u, ⟨v, σ', H', J, rv, q⟩ => exact done J rv q
    | .next, ⟨σ', H', J, q⟩ => exact done (v := V.non) (u := Value.none) J rfl q
    | .brk, ⟨_, _, _, q⟩ => exact q.elim
    | .cont, ⟨_, _, _, q⟩ => exact q.elim⟩
section
variable {w : World} {K : PySem.W.Frag} {mg : Str → Option Value} {base : Heap}
theorem calG_mk (G : Glb w K mg base) (i : Nat) {d : He.DefD} (h : fn[i]? = some d) {x : Str} (hx : d.at_ = (x, none)) (hm : mg x = some (.ref (He.ga K x))) (hd : d.dvs K = []) {N ps : List Str} {k : Nat} {sp : Sp} (S : FnScope N ps d.scope) (len : ∀ vs H Q E, sp vs H Q E → vs.length = ps.length)
    (hb : ∀ (kV doc pm : Value) (an : Option Addr) (cdv ct : Value) (us : List Value), us.length = ps.length → bindArgs (PySem.W.fnOf d.name d.qual d.params d.body d.scope .none kV doc pm an cdv ct) ⟨us, []⟩ = pure (ps.zip us))
    (hbody : ∀ (f : Addr) (cdv : Value) (A : Around) (outer : List Env) (s : Shared) (H : Hp) (vs : List V) (Q : VK) (E : XK), Room k (A.deeper (envOfC d.qual d.scope s.heap.objs.size f cdv)) → A.guards = some [] → sp vs H Q E →
      ∃ t, PSs (cxOf C8.CX0 PP w K mg base N d.qual d.scope f cdv A outer s H E).nox d.body t ∧ t { nx := fun _ H' => Q .non H', rt := Q } (start N vs) H) : CalG PP w K mg base (k + 1) x sp := by
  obtain ⟨fd, F⟩ := G.says.d.def_ i h
  rw [hd] at F
  rw [hx] at F
  have hbn := F.bindsN hb
  have hkp := F.kp
  obtain ⟨oc, od, dV, kV, doc, pm, an, cdv, ct, osl, rfl, lk, hcd, _, _⟩ := F.ex
  refine ⟨He.ga K x, _, ps, fn_ofG lk hcd S len fun A outer s H vs Q E hr hg hsp => ?_, hm, hkp, hbn⟩
  obtain ⟨t, h1, h2⟩ := hbody _ cdv A outer s H vs Q E hr hg hsp
  exact ⟨t, h1.nox, h2⟩
end
section
variable {X : Cx} {k j : Nat} {f : Addr} {fd : FuncData} {ps : List Str} {x : Str} {sp : Sp} {p pos : Pos} {e : Expr} {es : List Expr} {t : TA} {pins : List (Addr × Obj)} {σ : L2.St} {H : Hp} {s : Shared}
theorem run_fnG {Q : VK} {us : List Value} {vs : List V} (F : FnG X.prog X.w X.K X.mg X.base k f fd ps sp) (room : Room k X.A) (hg : X.A.guards = some []) (bnd : Binds X.K fd ps []) (I : Inv X pins σ H s) (rel : Vals vs us) (prom : sp vs H Q C8.E0) :
    wpAny (model X.prog X.w) X.A (call (.ref f) us) (EP X pins σ Q) X.xe s := by
  have hl : (us ++ []).length = ps.length := by rw [List.append_nil, ← rel.length]; exact F.len _ _ _ _ prom
  have hb := bnd s us I.kIn hl
  rw [List.append_nil] at hb
  refine wpAny_call (codeAny_mono (F.run X.A X.stack s H ⟨us, []⟩ us vs Q C8.E0 room hg I.env0 hb rel prom) fun r s2 out => ?_)
  match r, out with
  | .error e, out => exact C8.pass0 (E := C8.E0) pins σ H s e s2 I out
  | .ok (.ret u), out => exact I.after out
  | .ok .next, out => exact out.elim
  | .ok .brk, out => exact out.elim
  | .ok .cont, out => exact out.elim
/-- f(e, ..), f such a def -/
theorem pe_cG (c : CalG X.prog X.w X.K X.mg X.base k x sp) (hr : Room j X.A) (hgd : X.A.guards = some []) (hk : k ≤ j) (hg : Gl X x) (ha : PA X (e :: es) t)
    (hdb : (x == ("__debug__" : Str)) = false := by decide) (he : starEach (e :: es) X.env = (false, eval e X.env) :: starEach es X.env := by rfl) (hpl : (backTo pos (starEach es X.env)).any (·.1) = false := by rfl) :
    PE X (.Call (.Name x p) (e :: es) [] pos) (tCall sp [] C8.E0 t) := by
  obtain ⟨f, fd, ps, F, hm, kp, b⟩ := c.ex
  refine ⟨fun pins s σ H Q I h => wpAny_Call_Name_kw (ld_glob I hg hm ?_ hdb)⟩
  refine PySem.W.callWith_K (h₀ := X.base) I.ok.mod.kin kp (thn (ha.run pos pins s σ H _ I h) fun us s1 ⟨vs, H1, I1, r, q⟩ => ⟨I1.kIn, ?_⟩) he hpl
  dsimp only at q
  rw [List.append_nil] at q
  exact run_fnG F (hr.mono hk) hgd b I1 r q
/-- repr of None, a list, a tuple -/
def rReprD (K : PySem.W.Frag) : List V → Hp → VK → Prop := fun xs H Q => ∃ (x : V) (d : PyData), xs = [x] ∧ Dp K H x d ∧ (d = .none ∨ isDisplay d = true) ∧ d.showable = true ∧ d.hasDict = false ∧ d.depth ≤ 60 ∧ d.shown.length ≤ sizeLine ∧ Q (.str d.shown) H
theorem call_reprG (hgd : X.A.guards = some []) (hu : X.A.units + 64 < cLine) : CallR X (.builtin "repr") (rReprD X.K) := by
  intro pins s σ H xs us Q I r ⟨x, d, ex, hd, hk, hs, hn, hdp, hz, q⟩
  subst ex
  obtain ⟨u, rfl, rx⟩ := vals1 r
  rcases hk with e | hk
  · subst e
    cases hd
    cases rx
    exact PySem.P.repr_of_none ⟨.str "None", H, I.tok _, ⟨_, rfl⟩, q⟩
  · obtain ⟨as, rd⟩ := Dp.reads I d x u hd rx
    obtain ⟨a, rfl⟩ := isRef_of_reads rd hk
    exact PySem.repr_of_reads' rd hs (PyData.noDict_hsm hn) hgd (by omega) (fun _ _ z => z) (fun h' u tk hk' => ⟨.str d.shown, H, I.kept hk', ⟨_, rfl⟩, q⟩) hz
end
/-- data that repr tells -/
structure Sho (b n : Nat) (d : PyData) : Prop where
  lay : LayD n d
  shw : d.showable = true
  shr : d.leavesShort 13 = true
  blk : d.bulk ≤ b
theorem Sho.wk {b n b' n' : Nat} {d : PyData} (h : Sho b n d) (h1 : b ≤ b') (h2 : n ≤ n') : Sho b' n' d := ⟨⟨h.lay.1, Nat.le_trans h.lay.2 h2⟩, h.shw, h.shr, Nat.le_trans h.blk h1⟩
theorem shoI {i : Int} (h : i.natAbs < 10 ^ 12) : Sho 0 0 (.int i) := ⟨layI 0 i, by
  have : i.natAbs.log2 < 1920 := by
    by_cases z : i.natAbs = 0
    · rw [z]; decide
    · exact (Nat.log2_lt z).mpr (Nat.lt_trans h (by decide))
  simpa [PyData.showable] using this, by
  have := PyData.shown_int_le h
  simpa [PyData.leavesShort] using this, by simp [PyData.bulk]⟩
theorem shoN : Sho 0 0 .none := ⟨⟨by simp [PyData.canLay0], by simp [PyData.depth]⟩, by simp [PyData.showable], by simp [PyData.leavesShort], by simp [PyData.bulk]⟩
theorem shoS {x : Str} (h : PyData.strOk x = true) : Sho x.length 0 (.str x) := ⟨layS 0 x h, by simp [PyData.showable], PyData.leavesShort_of_canLay0 13 _ (layS 0 x h).1 (by simp [PyData.intsShort]), by
  show x.cps.size ≤ x.length
  exact Nat.le_refl _⟩
theorem sho_all {b n : Nat} : ∀ {ds : List PyData}, (∀ d ∈ ds, Sho b n d) → PyData.showableAll ds = true ∧ PyData.leavesShortAll 13 ds = true ∧ PyData.bulkAll ds ≤ ds.length * (b + 1)
  | [], _ => ⟨by simp [PyData.showableAll], by simp [PyData.leavesShortAll], by simp [PyData.bulkAll]⟩
  | d :: ds, h => by
    have h1 := h d (by simp)
    obtain ⟨a1, a2, a3⟩ := sho_all (ds := ds) fun e he => h e (by simp [he])
    refine ⟨by simp [PyData.showableAll, h1.shw, a1], by simp [PyData.leavesShortAll, h1.shr, a2], ?_⟩
    have := h1.blk
    simp only [PyData.bulkAll, List.length_cons, Nat.succ_mul]
    omega
theorem shoL {b n : Nat} {ds : List PyData} (h : ∀ d ∈ ds, Sho b n d) : Sho (ds.length * (b + 1)) (n + 1) (.list ds) := by
  obtain ⟨a1, a2, a3⟩ := sho_all h
  exact ⟨layL fun d hd => (h d hd).lay, by simpa [PyData.showable] using a1, by simpa [PyData.leavesShort] using a2, by simpa [PyData.bulk] using a3⟩
theorem shoU {b n : Nat} {ds : List PyData} (h : ∀ d ∈ ds, Sho b n d) : Sho (ds.length * (b + 1)) (n + 1) (.tuple ds) := by
  obtain ⟨a1, a2, a3⟩ := sho_all h
  exact ⟨layU fun d hd => (h d hd).lay, by simpa [PyData.showable] using a1, by simpa [PyData.leavesShort] using a2, by simpa [PyData.bulk] using a3⟩
theorem shoV {v : List Int} (h : ∀ a ∈ v, a.natAbs < 10 ^ 12) : Sho v.length 1 (dV v) := by
  have := shoU (b := 0) (n := 0) (ds := v.map .int) fun d hd => by
    obtain ⟨a, ha, rfl⟩ := List.mem_map.mp hd
    exact shoI (h a ha)
  exact this.wk (by simp) (by omega)
theorem ed_repr {K : PySem.W.Frag} {M : List Addr} {σ : L2.St} {H : Hp} {te : TE} {d : PyData} {b n : Nat} (hs : Sho b n d) (hb : b ≤ 2 ^ 20) (hn : n ≤ 60) (hk : d = .none ∨ isDisplay d = true) (h : ED K M te σ H d) : ED K M (tCB (rReprD K) (tCons te tNil)) σ H (.str d.shown) := fun hM H1 e Q q =>
  h hM H1 e _ fun v H2 e2 hv => ⟨v, d, rfl, hv.mono (hide_sub _ _), hk, hs.shw, PyData.hasDict_of_canLay d hs.lay.1, Nat.le_trans hs.lay.2 hn, PyData.shown_fits_bulk (B := 13) (by decide) (by decide) hs.shr (Nat.le_trans hs.blk hb), q _ H2 e2 (.str _)⟩
end WL
end
section
set_option Elab.async false
set_option linter.all false
set_option maxRecDepth 100000
set_option maxHeartbeats 4000000
/-! D29: BadPlan, the raising road, _law_is_refused. -/
namespace WL
open PySem PySem.Spec PyProof.Rows L2 Evl HeadW
section
variable {w : World} {K : PySem.W.Frag} {mg : Str → Option Value} {base : Heap}
abbrev cBad (K : PySem.W.Frag) : Addr := He.ga K "BadPlan"
abbrev cWer (K : PySem.W.Frag) : Addr := He.ga K "WheelError"
theorem excB_ok {x : Str} (h : excB K x = true) : OexC K (He.ga K x) ∧ PySem.W.findIn K (.ref (He.ga K x)) "__init__" = some (some (.ref (He.ma K (He.ga K x) "__init__"))) ∧ PySem.W.typeIn K (.ref (He.ma K (He.ga K x) "__init__")) = some (.type "function") ∧ PySem.W.exmOne K (.ref (He.ga K x)) (.ref (He.ga K x)) = some true := by
  unfold excB at h
  obtain ⟨h0, h⟩ := He.ba h
  obtain ⟨h1, h⟩ := He.ba h
  obtain ⟨h2, h⟩ := He.ba h
  obtain ⟨h3, h⟩ := He.ba h
  obtain ⟨h4, h⟩ := He.ba h
  obtain ⟨h5, h⟩ := He.ba h
  obtain ⟨h6, h7⟩ := He.ba h
  refine ⟨⟨?_, He.eqO_ok h1, of_decide_eq_true h2, of_decide_eq_true h3, h4⟩, He.eqO_ok h5, of_decide_eq_true h6, of_decide_eq_true h7⟩
  split at h0
  · rename_i dd cd sl ho
    split at h0
    · rename_i C' bm k0 k1 k2 k3 n k5 hm hs
      simp only [Bool.and_eq_true, beq_iff_eq, Bool.not_eq_true'] at h0
      obtain ⟨e1, e2, e3, e4, e5⟩ := h0
      obtain ⟨nm, bs, mro, ns, qn, hd, sn, sub, ab, col, del⟩ := cd
      dsimp only at hm e3 e4
      obtain ⟨l⟩ := sl
      have hs : l = [k0, k1, k2, k3, some (.builtin n), k5] := hs
      subst hm e3 e4 hs
      rw [e2, e1] at ho
      exact ⟨nm, qn, ns, bs, bm, sn, sub, ab, col, dd, k0, k1, k2, k3, k5, ho, e5⟩
    · cases h0
  · cases h0
theorem Glb.ex (G : Glb w K mg base) : excB K "BadPlan" = true ∧ werB K "WheelError" = true := He.ba (He.ba G.says.x).2
theorem Glb.oex (G : Glb w K mg base) : OexC K (cBad K) := (excB_ok G.ex.1).1
theorem Glb.wer (G : Glb w K mg base) : PySem.W.readsIn K (cWer K) (.type "type") = true ∧ PySem.W.specialIn K (.ref (cWer K)) "__getattribute__" = some (some (.builtin "type.__getattribute__")) ∧ PySem.W.findCls K (.ref (cWer K)) (.type "type") "__init__" = some (.val (.builtin "ValueError.__init__")) := by
  have h := G.ex.2
  unfold werB at h
  obtain ⟨h0, h⟩ := He.ba h
  obtain ⟨h1, h2⟩ := He.ba h
  refine ⟨h0, He.eqO_ok h1, ?_⟩
  split at h2
  · rename_i n hn
    rw [beq_iff_eq] at h2
    rw [hn, h2]
  · cases h2
end
section
variable {X : Cx} {o e : Expr} {es : List Expr} {to te : TE} {ta : TA} {p1 p2 pos : Pos} {W : Addr}
/-- C.__init__(self, ..), C an own class that has its __init__ from ValueError -/
theorem pe_weinit {pl : Sem Bool} (hg : Gl X "WheelError") (hm : X.mg "WheelError" = some (.ref W)) (rd : PySem.W.readsIn X.K W (.type "type") = true) (ga : PySem.W.specialIn X.K (.ref W) "__getattribute__" = some (some (.builtin "type.__getattribute__"))) (vW : PySem.W.findCls X.K (.ref W) (.type "type") "__init__" = some (.val (.builtin "ValueError.__init__"))) (ha : PA X (e :: es) ta)
    (hc : eval (.Call (.Attribute (.Name "WheelError" p1) "__init__" p2) (e :: es) [] pos) X.env = (do
      let cv ← eval (.Name "WheelError" p1) X.env
      standAt p2.atName
      let (g, own) ← holding [cv] (getMethod cv "__init__" pl)
      callWith pos g own (backTo pos (starEach (e :: es) X.env)) (backToKw pos (keywordEach [] X.env))) := by rfl)
    (he : starEach (e :: es) X.env = (false, eval e X.env) :: starEach es X.env := by rfl) (hpl : (backTo pos (starEach es X.env)).any (·.1) = false := by rfl) :
    PE X (.Call (.Attribute (.Name "WheelError" p1) "__init__" p2) (e :: es) [] pos) (tVeI X.K ta) := by
  refine ⟨fun pins s σ H Q I h => PySem.W.methodCall_KW (ld_glob I hg hm ?_ (by decide)) hc⟩
  refine PySem.W.method_cls I.kIn ga (PySem.W.cls_value I.kIn rd vW (by decide +kernel) ?_)
  show wpAny _ _ (callWith pos (Value.builtin "ValueError.__init__") [] (backTo pos (starEach (e :: es) X.env)) []) _ _ _
  refine PyProof.Rows.callWith_method1 (thn (ha.run pos pins _ σ H _ (I.tok _) h) fun us s1 ⟨vs, H1, I1, r1, a, C, ws, ev, hl, T, ea, q⟩ => ?_) he hpl
  subst ev
  cases r1 with
  | @cons _ u0 _ ur ra rw' =>
    cases (show u0 = Value.ref a from ra)
    exact oinit_ok T I1 ea (by rw [← Paired.length rw', sizeLine_eq]; omega) fun s2 J => ⟨.non, H1, J, rfl, q⟩
end
theorem takesF {X : Cx} : Takes X (fun _ _ _ _ => False) := fun _ _ ⟨_, _, _, _, _, _, _, _, _, _, _, _, _, _, _, _, z⟩ => z.elim
/-- a def that may raise -/
structure CalX (w : World) (K : PySem.W.Frag) (mg : Str → Option Value) (base : Heap) (k : Nat) (x : Str) (sp : Sp) : Prop where
  ex : ∃ (f : Addr) (fd : FuncData) (ps : List Str), FnOk PP w K mg base (L2.CX PP w) k f fd ps sp ∧ mg x = some (.ref f) ∧ PySem.W.keepIn K (.ref f) = true ∧ Binds K fd ps []
section
variable {w : World} {K : PySem.W.Frag} {mg : Str → Option Value} {base : Heap}
theorem calX_mk (G : Glb w K mg base) (i : Nat) {d : He.DefD} (h : fn[i]? = some d) {x : Str} (hx : d.at_ = (x, none)) (hm : mg x = some (.ref (He.ga K x))) (hd : d.dvs K = []) {N ps : List Str} {k : Nat} {sp : Sp} (S : FnScope N ps d.scope) (len : ∀ vs H Q E, sp vs H Q E → vs.length = ps.length)
    (hb : ∀ (kV doc pm : Value) (an : Option Addr) (cdv ct : Value) (us : List Value), us.length = ps.length → bindArgs (PySem.W.fnOf d.name d.qual d.params d.body d.scope .none kV doc pm an cdv ct) ⟨us, []⟩ = pure (ps.zip us))
    (hbody : ∀ (f : Addr) (cdv : Value) (A : Around) (outer : List Env) (s : Shared) (H : Hp) (vs : List V) (Q : VK) (E : XK), Room k (A.deeper (envOfC d.qual d.scope s.heap.objs.size f cdv)) → sp vs H Q E →
      ∃ t, PSs (cxOf (L2.CX PP w) PP w K mg base N d.qual d.scope f cdv A outer s H E) d.body t ∧ t { nx := fun _ H' => Q .non H', rt := Q } (start N vs) H) : CalX w K mg base (k + 1) x sp := by
  obtain ⟨fd, F⟩ := G.says.d.def_ i h
  rw [hd] at F
  rw [hx] at F
  exact ⟨He.ga K x, fd, ps, F.ok S len (fun cdv A outer s H vs Q E hr hsp => hbody _ cdv A outer s H vs Q E hr hsp), hm, F.kp, F.bindsN hb⟩
theorem pe_cX {X : Cx} {k j : Nat} {x : Str} {sp : Sp} {E : L2.St → XK} {p pos : Pos} {e : Expr} {es : List Expr} {t : TA} (c : CalX X.w X.K X.mg X.base k x sp) (hP : X.prog = PP) (hr : Room j X.A) (hk : k ≤ j) (hg : Gl X x) (hx : ∀ σ, PassesAt (L2.CX PP X.w) X σ (E σ)) (ha : PA X (e :: es) t)
    (hdb : (x == ("__debug__" : Str)) = false := by decide) (he : starEach (e :: es) X.env = (false, eval e X.env) :: starEach es X.env := by rfl) (hpl : (backTo pos (starEach es X.env)).any (·.1) = false := by rfl) :
    PE X (.Call (.Name x p) (e :: es) [] pos) (tCallS sp E t) := by
  obtain ⟨f, fd, ps, F, hm, kp, b⟩ := c.ex
  rw [← hP] at F hx
  exact pe_callS F (hr.mono hk) hg hm kp b hx ha hdb he hpl
abbrev N_BadPlan_init : List Str := ["self", "readings"]
theorem sc_BadPlan_init : FnScope N_BadPlan_init ["self", "readings"] d_BadPlan_init.scope := ⟨rfl, rfl, rfl, by decide +kernel, rfl, by decide +kernel, by decide +kernel⟩
theorem bi_BadPlan_init (kV doc pm : Value) (an : Option Addr) (cdv ct : Value) (us : List Value) (hl : us.length = 2) : bindArgs (PySem.W.fnOf d_BadPlan_init.name d_BadPlan_init.qual d_BadPlan_init.params d_BadPlan_init.body d_BadPlan_init.scope .none kV doc pm an cdv ct) ⟨us, []⟩ = pure ((["self", "readings"] : List Str).zip us) := by
  match us, hl with
  | [_, _], _ => rfl

def sp_bad (K : PySem.W.Frag) : Sp := fun vs H Q _ => ∃ (a : Addr) (v : V), vs = [.ref a, v] ∧ H a = some (exo a (cBad K) none) ∧ ∀ dx, H dx = none → dx ≠ a → Q .non (upd (upd H dx (exd dx [("readings", v)])) a (exo a (cBad K) (some dx)))
theorem fn_bad (G : Glb w K mg base) : ∃ fd, FnOk PP w K mg base C8.CX0 1 (He.ma K (cBad K) "__init__") fd ["self", "readings"] (sp_bad K) ∧ Binds K fd ["self", "readings"] [] := by
  obtain ⟨fd, F⟩ := G.says.d.def_ 0 (d := d_BadPlan_init) rfl
  refine ⟨fd, F.ok sc_BadPlan_init (fun vs H Q E ⟨_, _, h, _⟩ => by rw [h]; rfl) (fun cdv A outer s H vs Q E hr ⟨a, v, ev, ha, q⟩ => ?_), F.bindsN bi_BadPlan_init⟩
  subst ev
  refine ⟨_, PSs.nox (pss_cons (ps_expr (pe_weinit (pl := _) (by rfl) G.g_WheelError G.wer.1 G.wer.2.1 G.wer.2.2 (pa_cons (pv 0) (pa_cons pe_str pa_nil)))) (pss_one (ps_ost (pv 0) (pv 1) rfl))), ?_⟩
  refine ⟨_, rfl, a, cBad K, _, rfl, by simp, G.oex, ha, ?_⟩
  refine ⟨_, rfl, _, rfl, a, cBad K, rfl, G.oex, G.n_BadPlan_readings, .inl ⟨ha, fun dx h1 h2 => q dx h1 h2⟩⟩
/-- what is asked of an exception: a BadPlan, whatever else is new -/
def BadE (K : PySem.W.Frag) (H : Hp) (E : XK) : Prop := ∀ H' d, Ex H H' → E (.ref (cBad K)) d H'
/-- raise BadPlan(..) -/
theorem ps_bad {X : Cx} {W : WX} {p pos pos2 : Pos} {e : Expr} {ta : TA} (G : Glb X.w X.K X.mg X.base) (hP : X.prog = PP) (hc : X.calm = true) (tk : Takes X W) (hr : Room 2 X.A) (hg : Gl X "BadPlan") (ha : PA X [e] ta)
    (he : starEach [e] X.env = (false, eval e X.env) :: starEach [] X.env := by rfl) (hpl : (backTo pos (starEach [] X.env)).any (·.1) = false := by rfl) :
    PS X (.Raise (some (.Call (.Name "BadPlan" p) [e] [] pos)) none pos2) (fun _ σ H => tMkO (cBad X.K) (sp_bad X.K) [] ta σ H fun cls d H' => W cls d σ H') := by
  obtain ⟨fd, F, b⟩ := fn_bad G
  rw [← hP] at F
  have h := excB_ok G.ex.1
  exact ps_raise hc tk (pmk_oex G.oex h.2.1 h.2.2.1 F hr b .nil (C8.pass0 (E := fun _ _ _ => False)) hg G.g_BadPlan ha (by decide) he hpl)
/-- what is left to show of such a statement -/
theorem raise_bad {E : XK} {ta : TA} {σ : L2.St} {H : Hp} {v : V} (hE : BadE K H E) (ht : ∀ Q : List V → Hp → Prop, Q [v] H → ta σ H Q) : tMkO (cBad K) (sp_bad K) [] ta σ H fun cls d H' => E cls d H' := by
  refine ht _ ⟨by simp, fun a ha => ⟨a, v, by simp, upd_same, fun dx h1 hne => ⟨rfl, dx, _, upd_same, by rw [upd_ne hne]; exact upd_same, ?_, hE _ _ ?_⟩⟩⟩
  · rw [upd_ne hne] at h1
    exact h1
  · intro b o hb
    have hba : b ≠ a := ne_of_none hb ha
    have hbd : b ≠ dx := fun z => by
      rw [upd_ne hne] at h1
      rw [z, h1] at hb
      cases hb
    rw [upd_ne hbd, del_ne hba, upd_ne hba, upd_ne hbd, upd_ne hba]
    exact hb
/-- called with 5 in the place of a part -/
def sp_five (K : PySem.W.Frag) : Sp := fun vs H _ E => ∃ v1 v2 v4, vs = [v1, v2, .int 5, v4] ∧ BadE K H E
theorem calX_part_window (G : Glb w K mg base) : CalX w K mg base 3 "part_window" (sp_five K) :=
  calX_mk G 37 (d := d_part_window) rfl rfl G.g_part_window rfl (k := 2) sc_part_window (fun vs H Q E ⟨_, _, _, h, _⟩ => by rw [h]; rfl) bi_part_window (fun f cdv A outer s H vs Q E hr hsp => by
    obtain ⟨v1, v2, v4, rfl, hE⟩ := hsp
    refine ⟨_, pss_cons (ps_if (PW.pt (pw_or (pt_not (pt_val (pe_callB (id := "isinstance") call_isi (by rfl) G.f_isinstance (by decide +kernel) (pa_cons (pv 2) (pa_cons (pe_bltn (v := .ty "tuple") (by rfl) G.f_tuple (by decide +kernel) rfl) pa_nil))))) (pw_or (pt_cmpR op_ne (pe_callB (id := "len") call_len (by rfl) G.f_len (by decide +kernel) (pa_cons (pv 2) pa_nil)) pe_int (nomark _)) (pw_or1 (pt_cmpR op_eq (pe_callB (id := "len") call_len (by rfl) G.f_len (by decide +kernel) (pa_cons (pv 3) pa_nil)) (C8.pe_gc (by rfl) G.c_MAX_LOOKS) (nomark _)))))) (pss_one (ps_bad G rfl rfl (takes_of rfl rfl rfl rfl) hr (by rfl) (pa_cons (pv 3) pa_nil))) pss_nil) pss_never, ?_⟩
    refine sd_if (b := true) (M := []) (MOk.nil _) ((et_or (b := true) (c := true) (et_not (et_B (ed_isi (K := K) (d := .int 5) (b := false) (n := "int") (ed_varI rfl) rfl (by decide +kernel)))) fun z => by cases z).to rfl) (fun _ H1 e1 => ?_) fun z => by cases z
    exact raise_bad (K := K) (v := v4) (fun H' d e => hE H' d (e1.trans e)) fun Q q => ⟨v4, rfl, q⟩)
theorem calX_check_part (G : Glb w K mg base) : CalX w K mg base 4 "check_part" (sp_five K) :=
  calX_mk G 38 (d := d_check_part) rfl rfl G.g_check_part rfl (k := 3) sc_check_part (fun vs H Q E ⟨_, _, _, h, _⟩ => by rw [h]; rfl) bi_check_part (fun f cdv A outer s H vs Q E hr hsp => by
    obtain ⟨v1, v2, v4, rfl, hE⟩ := hsp
    refine ⟨_, pss_cons (ps_if (pt_cmpR op_isN1 (pv 2) pe_non (nomark _)) (pss_one ps_retN) pss_nil) (pss_cons (ps_set (i := 4) sc_check_part.nd rfl (by first | exact Or.inl rfl | exact Or.inr rfl) (pe_cX (E := WE fun cls d _ H => E cls d H) (calX_part_window G) rfl hr (by decide) (by rfl) (fun σ => passAt (takes_of rfl rfl rfl rfl) σ) (pa_cons (pv 0) (pa_cons (pv 1) (pa_cons (pv 2) (pa_cons (pv 3) pa_nil)))))) pss_never), ?_⟩
    refine sd_if (b := false) (M := []) (MOk.nil _) (et_test (ed_isN (K := K) (d1 := .int 5) (ed_varI rfl))) (fun z => by cases z) fun _ H1 e1 => ?_
    exact ⟨v1, rfl, v2, rfl, .int 5, rfl, v4, rfl, v1, v2, v4, rfl, fun H' d e => hE H' d (e1.trans e)⟩)
theorem calX_leaves (G : Glb w K mg base) : CalX w K mg base 5 "leaves" (fun vs H _ E => ∃ v1 v2 v3, vs = [v1, v2, v3, .int 5] ∧ BadE K H E) :=
  calX_mk G 40 (d := d_leaves) rfl rfl G.g_leaves rfl (k := 4) sc_leaves (fun vs H Q E ⟨_, _, _, h, _⟩ => by rw [h]; rfl) bi_leaves (fun f cdv A outer s H vs Q E hr hsp => by
    obtain ⟨v1, v2, v3, rfl, hE⟩ := hsp
    refine ⟨_, pss_cons (ps_expr (pe_cX (E := WE fun cls d _ H => E cls d H) (calX_check_part G) rfl hr (by decide) (by rfl) (fun σ => passAt (takes_of rfl rfl rfl rfl) σ) (pa_cons (pv 0) (pa_cons (pv 1) (pa_cons (pv 3) (pa_cons (pe_tup pa_nil) pa_nil)))))) pss_never, ?_⟩
    exact ⟨v1, rfl, v2, rfl, .int 5, rfl, Nat.zero_le _, fun p hp => ⟨v1, v2, .ref p, rfl, fun H' d e => hE H' d ((Ex.new hp).trans e)⟩⟩)
abbrev N_law_is_refused : List Str := ["_law_cabinet_here", "_law_start", "_law_coset_here"]
theorem sc_law_is_refused : FnScope N_law_is_refused ["_law_cabinet_here", "_law_start", "_law_coset_here"] d_law_is_refused.scope := ⟨rfl, rfl, rfl, by decide +kernel, rfl, by decide +kernel, by decide +kernel⟩
theorem bi_law_is_refused (kV doc pm : Value) (an : Option Addr) (cdv ct : Value) (us : List Value) (hl : us.length = 3) : bindArgs (PySem.W.fnOf d_law_is_refused.name d_law_is_refused.qual d_law_is_refused.params d_law_is_refused.body d_law_is_refused.scope .none kV doc pm an cdv ct) ⟨us, []⟩ = pure ((["_law_cabinet_here", "_law_start", "_law_coset_here"] : List Str).zip us) := by
  match us, hl with
  | [_, _, _], _ => rfl

def R_law_is_refused (K : PySem.W.Frag) (Ts : List Ty) (T : Ty) : Prop := Ts.length = 3 ∧ T = tB K true
theorem cal_law_is_refused (G : Glb w K mg base) : C8.Cal PP w K mg base 6 "_law_is_refused" (SpT (R_law_is_refused K)) [] :=
  cal_mk G 75 (d := d_law_is_refused) rfl rfl G.g_law_is_refused rfl sc_law_is_refused (k := 5) (spT_len fun Ts T ⟨h, _⟩ => h) bi_law_is_refused (fun f cdv A outer s H vs Q E hr hsp => by
    obtain ⟨M, Ts, T, hM, hv, ⟨hl, rfl⟩, hq⟩ := hsp
    obtain ⟨v1, v2, v3, rfl⟩ : ∃ v1 v2 v3, vs = [v1, v2, v3] := by
      have := hv.len
      rw [hl] at this
      match vs, this with
      | [a, b, c], _ => exact ⟨a, b, c, rfl⟩
    have hx := (excB_ok G.ex.1).2.2.2
    refine ⟨_, pss_cons (ps_try_only (c := .ref (cBad K)) (tb := fun W => tDrop (tCallS (fun vs H _ E => ∃ v1 v2 v3, vs = [v1, v2, v3, .int 5] ∧ BadE K H E) (WE W) (tCons (tVar 0) (tCons (tVar 1) (tCons (tVar 2) (tCons (tC (.int 5)) tNil)))))) (ts := fun _ _ _ => tRet (tC (.bl true))) (Wout := fun _ _ _ _ => False) rfl rfl ⟨rfl, by decide, .inl G.g_BadPlan⟩ takesF
      (fun W pn xe tk _ => pss_one (ps_expr (pe_cX (calX_leaves G) rfl hr (by decide) (by rfl) (fun σ => passAt tk σ) (pa_cons (pv 0) (pa_cons (pv 1) (pa_cons (pv 2) (pa_cons pe_int pa_nil)))))))
      (fun a oe cls d pn hz hf => pss_one (ps_ret pe_bl))) pss_never, ?_⟩
    refine ⟨v1, rfl, v2, rfl, v3, rfl, v1, v2, v3, rfl, fun H' d e => ?_⟩
    exact ⟨true, hx, fun _ a ha => hq _ H' e (.bl true), fun z => by cases z⟩)
end
end WL
end
section
set_option Elab.async false
set_option linter.all false
set_option maxRecDepth 100000
set_option maxHeartbeats 4000000
/-! D30: _law_alike, _law_are_leaves, _law_leaf_right. -/
namespace WL
open PySem PySem.Spec PyProof.Rows L2 Evl HeadW
theorem filt_none {α : Type} (l : List α) : l.filter (fun _ => false) = [] := List.filter_eq_nil_iff.mpr (by simp)
section
variable {w : World} {K : PySem.W.Frag} {mg : Str → Option Value} {base : Heap}
abbrev N_law_alike : List Str := ["_law_found", "_law_due"]
theorem sc_law_alike : FnScope N_law_alike ["_law_found", "_law_due"] d_law_alike.scope := ⟨rfl, rfl, rfl, by decide +kernel, rfl, by decide +kernel, by decide +kernel⟩
theorem bi_law_alike (kV doc pm : Value) (an : Option Addr) (cdv ct : Value) (us : List Value) (hl : us.length = 2) : bindArgs (PySem.W.fnOf d_law_alike.name d_law_alike.qual d_law_alike.params d_law_alike.body d_law_alike.scope .none kV doc pm an cdv ct) ⟨us, []⟩ = pure ((["_law_found", "_law_due"] : List Str).zip us) := by
  match us, hl with
  | [_, _], _ => rfl

def R_law_alike (K : PySem.W.Frag) (Ts : List Ty) (T : Ty) : Prop := ∃ (d : PyData) (b n : Nat), Ts = [dat K d, dat K d] ∧ Sho b n d ∧ b ≤ 2 ^ 20 ∧ n ≤ 60 ∧ isDisplay d = true ∧ PyData.eqv d d = true ∧ T = tB K true
theorem calG_law_alike (G : Glb w K mg base) : CalG PP w K mg base 1 "_law_alike" (SpT (R_law_alike K)) :=
  calG_mk G 49 (d := d_law_alike) rfl rfl G.g_law_alike rfl (k := 0) sc_law_alike (spT_len fun Ts T ⟨_, _, _, h, _⟩ => by rw [h]; rfl) bi_law_alike (fun f cdv A outer s H vs Q E hr hgd hsp => by
    obtain ⟨M, Ts, T, hM, hv, ⟨d, b, n, rfl, hs, hb, hn, hd, he, rfl⟩, hq⟩ := hsp
    obtain ⟨v1, v2, rfl, h1, h2⟩ := allT2 hv
    refine ⟨_, (pss_one (ps_ret (pe_and (pe_cmpR (op_eqD hr.units) (pv 0) (pv 1) (nomark _)) (pe_one (pe_cmpR op_eq (pe_callB (id := "repr") (call_reprG hgd hr.units) (by rfl) G.f_repr (by decide +kernel) (pa_cons (pv 0) pa_nil)) (pe_callB (id := "repr") (call_reprG hgd hr.units) (by rfl) G.f_repr (by decide +kernel) (pa_cons (pv 1) pa_nil)) (nomark _)))))), ?_⟩
    have hsh := hs.lay.sh (by omega)
    refine sd_ret (K := K) (d := .bool true) hM ((ed_and (b := true) (c := true) ((ed_eqD (K := K) hsh hsh (ed_var rfl h1) (ed_var rfl h2)).bool he) fun _ => (ed_eqS (ed_repr hs hb hn (.inr hd) (ed_var rfl h1)) (ed_repr hs hb hn (.inr hd) (ed_var rfl h2))).bool (by simp)).bool rfl) fun v H1 e h => hq v H1 e h)
abbrev N_law_are_leaves : List Str := ["_law_thing", "_law_leaf"]
theorem sc_law_are_leaves : FnScope N_law_are_leaves ["_law_thing"] d_law_are_leaves.scope := ⟨rfl, rfl, rfl, by decide +kernel, rfl, by decide +kernel, by decide +kernel⟩
theorem bi_law_are_leaves (kV doc pm : Value) (an : Option Addr) (cdv ct : Value) (us : List Value) (hl : us.length = 1) : bindArgs (PySem.W.fnOf d_law_are_leaves.name d_law_are_leaves.qual d_law_are_leaves.params d_law_are_leaves.body d_law_are_leaves.scope .none kV doc pm an cdv ct) ⟨us, []⟩ = pure ((["_law_thing"] : List Str).zip us) := by
  match us, hl with
  | [_], _ => rfl

def R_law_are_leaves (K : PySem.W.Frag) (Ts : List Ty) (T : Ty) : Prop := ∃ (m : Int) (n : Nat) (res : List WM.Leaf), Ts = [tyL K (res.map (tyLeaf K m n))] ∧ res.length ≤ 90000 ∧ T = tB K true
theorem cal_law_are_leaves (G : Glb w K mg base) : C8.Cal PP w K mg base 1 "_law_are_leaves" (SpT (R_law_are_leaves K)) [] :=
  cal_mk G 74 (d := d_law_are_leaves) rfl rfl G.g_law_are_leaves rfl sc_law_are_leaves (spT_len fun Ts T ⟨_, _, _, h, _⟩ => by rw [h]; rfl) bi_law_are_leaves (fun f cdv A outer s H vs Q E hr hsp => by
    obtain ⟨M, Ts, T, hM, hv, ⟨m, n, res, rfl, hl, rfl⟩, hq⟩ := hsp
    obtain ⟨v1, rfl, h1⟩ := allT1 hv
    refine ⟨_, (pss_cons (ps_if (pt_not (pt_val (pe_callB (id := "isinstance") call_isi (by rfl) G.f_isinstance (by decide +kernel) (pa_cons (pv 0) (pa_cons (pe_bltn (v := .ty "list") (by rfl) G.f_list (by decide +kernel) rfl) pa_nil))))) (pss_one (ps_ret pe_bl)) pss_nil)
      (pss_one (ps_ret (pe_cmpR (op_eqD hr.units) (pe_lc (own := [("_law_leaf", 1)]) (g := (gName 1)) (tt := _) rfl sc_law_are_leaves.nd (pi_list (pv 0)) (blkOk_by (N := N_law_are_leaves) (sc := d_law_are_leaves.scope) (by decide +kernel)) (fun _ _ _ _ _ => (pg_name (i := 1) sc_law_are_leaves.nd rfl (by first | exact Or.inl rfl | exact Or.inr rfl))) (fun _ _ _ _ _ => (pts_one (PW.pt (pw_or (pt_not (pt_val (pe_callB (id := "isinstance") (call_isiK (K := K) rfl) (by rfl) G.f_isinstance (by decide +kernel) (pa_cons (pv 1) (pa_cons (pe_bltn (v := .ty "tuple") (by rfl) G.f_tuple (by decide +kernel) rfl) pa_nil))))) (pw_or1 (pt_cmpR op_ne (pe_callB (id := "len") (call_lenK (K := K) rfl) (by rfl) G.f_len (by decide +kernel) (pa_cons (pv 1) pa_nil)) pe_int (nomark _))))))) (fun _ _ _ _ _ => (pv 1))) (pe_lst pa_nil) (nomark _))))), ?_⟩
    refine sd_if (b := false) hM (et_not (et_B (ed_isiL (b := true) (eg_var rfl h1) (by decide +kernel)))) (fun z => by cases z) fun _ H1 e1 => ?_
    dsimp only [tNext]
    have h11 := (tyL K (res.map (tyLeaf K m n))).up (hide_ex (M := M) e1) h1
    refine sd_ret (K := K) (d := .bool true) (hM.ex e1) ((ed_eqD (K := K) (d1 := .list []) (d2 := .list []) rfl rfl (EG.dl ((eg_lc (K := K) (ei_l (eg_var rfl h11)) hl (fun _ => false) (fun _ => tN K) fun M' H' x lf i ex hM' hi hx => turn_name rfl ?_ fun z => by cases z).to (by rw [filt_none]; rfl))) (ed_lst (by simp) ea_nil)).bool rfl) fun v H2 e2 h => hq v H2 (e1.trans e2) h
    exact (et_or (b := false) (c := false) (et_not (et_B (ed_isiU (b := true) (eg_var rfl hx) (by decide +kernel)))) fun _ => (et_test (ed_neI (K := K) (eg_lenU (eg_var rfl hx)) ed_int)).to rfl).to rfl)
abbrev N_law_leaf_right : List Str := ["_law_modulus", "_law_weights", "_law_members_here", "_law_branch", "_law_leaf", "_law_readings", "_law_walk", "_law_some", "_law_one", "_law_left", "_law_known"]
theorem sc_law_leaf_right : FnScope N_law_leaf_right ["_law_modulus", "_law_weights", "_law_members_here", "_law_branch", "_law_leaf"] d_law_leaf_right.scope := ⟨rfl, rfl, rfl, by decide +kernel, rfl, by decide +kernel, by decide +kernel⟩
theorem bi_law_leaf_right (kV doc pm : Value) (an : Option Addr) (cdv ct : Value) (us : List Value) (hl : us.length = 5) : bindArgs (PySem.W.fnOf d_law_leaf_right.name d_law_leaf_right.qual d_law_leaf_right.params d_law_leaf_right.body d_law_leaf_right.scope .none kV doc pm an cdv ct) ⟨us, []⟩ = pure ((["_law_modulus", "_law_weights", "_law_members_here", "_law_branch", "_law_leaf"] : List Str).zip us) := by
  match us, hl with
  | [_, _, _, _, _], _ => rfl

/-- a branch as the law keeps it -/
abbrev dBranch (rds : List Int) (wk : List W) (xs : List (List Int)) : PyData := .tuple [dV rds, dWins wk, dL xs]
structure LeafArgs (m n st : Nat) (ws : List W) (vs : List (List Int)) (L : WM.Pv) (b : List Int) (p : Pl) (mk : Nat) (lf : WM.Leaf) (wk : List W) (some_ ks : List (List Int)) (wt : List Int) : Prop where
  one : WM.OneLeaf ws m n vs L b p mk lf wk some_
  win : ∀ u ∈ ws, WM.WinOk m n st u
  sub : ∀ u ∈ wk, u ∈ ws
  mems : WM.Mems m n vs ks
  wt : WM.Vec m n wt
  rds : ∀ a ∈ lf.1, a.natAbs < 10 ^ 12
  rlen : lf.1.length ≤ 1000
  slen : some_.length ≤ 1000
  klen : ks.length ≤ 1000
def R_law_leaf_right (K : PySem.W.Frag) (Ts : List Ty) (T : Ty) : Prop := ∃ (m n st : Nat) (ws : List W) (vs : List (List Int)) (L : WM.Pv) (b : List Int) (p : Pl) (mk : Nat) (lf : WM.Leaf) (wk : List W) (some_ ks : List (List Int)) (wt : List Int), Ts = [tI K m, tV K wt, dat K (dL ks), dat K (dBranch lf.1 wk some_), tyLeaf K m n lf] ∧ 2 ≤ m ∧ m ≤ 60 ∧ 1 ≤ n ∧ n ≤ 6 ∧ LeafArgs m n st ws vs L b p mk lf wk some_ ks wt ∧ T = tB K true
theorem calG_law_leaf_right (G : Glb w K mg base) : CalG PP w K mg base 6 "_law_leaf_right" (SpT (R_law_leaf_right K)) :=
  calG_mk G 73 (d := d_law_leaf_right) rfl rfl G.g_law_leaf_right rfl (k := 5) sc_law_leaf_right (spT_len fun Ts T ⟨_, _, _, _, _, _, _, _, _, _, _, _, _, _, h, _⟩ => by rw [h]; rfl) bi_law_leaf_right (fun f cdv A outer s H vs0 Q E hr hgd hsp => by
    obtain ⟨M, Ts, T, hM, hv, ⟨m, n, st, ws, vs, L, b, p, mk, lf, wk, some_, ks, wt, rfl, hm, hm2, hn, hn2, ha, rfl⟩, hq⟩ := hsp
    obtain ⟨v1, v2, v3, v4, v5, rfl, h1, h2, h3, h4, h5⟩ := allT5 hv
    cases dp_int h1
    have hm0 : (0 : Int) < m := by omega
    refine ⟨_, (pss_cons (ps_asg (pv 3) (pg_tup rfl (pgs_cons (pg_name (i := 5) sc_law_leaf_right.nd rfl (by first | exact Or.inl rfl | exact Or.inr rfl)) (pgs_cons (pg_name (i := 6) sc_law_leaf_right.nd rfl (by first | exact Or.inl rfl | exact Or.inr rfl)) (pgs_cons (pg_name (i := 7) sc_law_leaf_right.nd rfl (by first | exact Or.inl rfl | exact Or.inr rfl)) pgs_nil)))))
      (pss_cons (ps_if (PW.pt (pw_or (pt_not (pt_val (pe_cG (calG_law_alike G) hr hgd (by decide) (by rfl) (pa_cons (pe_ix ix_tup (pv 4) pe_int (fun _ _ => rfl)) (pa_cons (pv 5) pa_nil))))) (pw_or (pt_cmpR op_ne (C8.pe_mt0 (met_Coset_size G) hr (by decide) (pe_ix ix_tup (pv 4) pe_int (fun _ _ => rfl))) (pe_callB (id := "len") call_len (by rfl) G.f_len (by decide +kernel) (pa_cons (pv 7) pa_nil)) (nomark _)) (pw_or1 (pt_cmpR (op_neD hr.units) (C8.pe_mt0 (met_Coset_base G) hr (by decide) (pe_ix ix_tup (pv 4) pe_int (fun _ _ => rfl))) (pe_ix ix_list (pv 7) pe_int (fun _ _ => rfl)) (nomark _)))))) (pss_one (ps_ret pe_bl)) pss_nil)
      (pss_cons (ps_if (pt_cmpR (op_neD hr.units) (pe_lc (own := [("_law_one", 8)]) (g := (gName 8)) (tt := _) rfl sc_law_leaf_right.nd (pi_list (pv 7)) (blkOk_by (N := N_law_leaf_right) (sc := d_law_leaf_right.scope) (by decide +kernel)) (fun _ _ _ _ _ => (pg_name (i := 8) sc_law_leaf_right.nd rfl (by first | exact Or.inl rfl | exact Or.inr rfl))) (fun _ _ _ _ _ => (pts_one (pt_not (pt_val (C8.pe_mt (met_Coset_contains G) hr (by decide) (pe_ix (ix_tupK (K := K) rfl) (pv 4) pe_int (fun _ _ => rfl)) (pa_cons (pv 8) pa_nil)))))) (fun _ _ _ _ _ => (pv 8))) (pe_lst pa_nil) (nomark _)) (pss_one (ps_ret pe_bl)) pss_nil)
      (pss_cons (ps_set (i := 9) sc_law_leaf_right.nd rfl (by first | exact Or.inl rfl | exact Or.inr rfl) (C8.pe_c (cal_law_first_left G) hr (by decide) (by rfl) (pa_cons (pv 0) (pa_cons (pv 2) (pa_cons (pv 6) pa_nil)))))
      (pss_cons (ps_set (i := 10) sc_law_leaf_right.nd rfl (by first | exact Or.inl rfl | exact Or.inr rfl) (C8.pe_mt (met_Coset_known G) hr (by decide) (pe_ix ix_tup (pv 4) pe_int (fun _ _ => rfl)) (pa_cons (pv 1) pa_nil)))
      (pss_one (ps_ret (pe_and (pe_cmpR op_eq (pe_callB (id := "len") call_len (by rfl) G.f_len (by decide +kernel) (pa_cons (pv 9) pa_nil)) (pe_callB (id := "len") call_len (by rfl) G.f_len (by decide +kernel) (pa_cons (pv 7) pa_nil)) (nomark _)) (pe_one (pe_cmpR op_eq (pe_ix ix_tup (pv 10) pe_int (fun _ _ => rfl)) (C8.pe_c (cal_law_divisor G) hr (by decide) (by rfl) (pa_cons (pv 0) (pa_cons (pv 1) (pa_cons (pv 9) pa_nil)))) (nomark _))))))))))), ?_⟩
    refine sg_bind hM (ed_var (K := K) rfl h4).eg fun vb H1 e1 hb => ?_
    refine g_tup3 (K := K) hb fun x y z hx hy hz => ?_
    dsimp only
    have h21 := Dp.mono h2 (hide_ex (M := M) e1)
    have h31 := Dp.mono h3 (hide_ex (M := M) e1)
    have h51 := (tyLeaf K m n lf).up (hide_ex (M := M) e1) h5
    have hc := ha.one.cos
    have hsh := shoV ha.rds
    have cos : ∀ (M' : List Addr) (τ : L2.St) (H' : Hp), Ex (hide M H1) (hide M' H') → τ[4]? = some (some v5) → EG M' (tOp (rIxT K) (tVar 4) (tC (.int 1))) τ H' (tyCoset K m n lf.2.1 lf.2.2) := fun M' τ H' e h => eg_ixU (K := K) (Ts := [tV K lf.1, tyCoset K m n lf.2.1 lf.2.2]) rfl (eg_var h ((tyLeaf K m n lf).up e h51)) ed_int
    have hsz := ha.one.size hm0
    refine sd_if (b := false) (hM.ex e1) ((et_or (b := false) (c := false) ((et_not (b := true) (et_B (eg_call (T := tB K true) (R := R_law_alike K) (ega_cons (eg_ixU (K := K) (Ts := [tV K lf.1, tyCoset K m n lf.2.1 lf.2.2]) rfl (eg_var rfl h51) ed_int) (ega_d (ed_var (K := K) rfl hx) ega_nil)) ⟨dV lf.1, _, _, rfl, hsh, by have := ha.rlen; omega, by omega, rfl, by rw [eqv_dV]; simp, rfl⟩).ed)).to rfl) fun _ => et_or (b := false) (c := false) ((et_test (ed_neI (K := K) (eg_meth (R := R_Coset_size K) (T := tI K (WM.sz m lf.2.1)) (cos M _ H1 (Ex.refl _) rfl) rfl ega_nil ⟨m, n, lf.2.1, lf.2.2, rfl, by omega, by omega, by omega, hc.tab, rfl⟩).ed ((ed_len (ds := some_.map dV) (ed_var rfl hz)).to (by rw [List.length_map])))).to (by rw [hsz]; simp)) fun _ => (et_test (ed_neD (K := K) (shaped_dV lf.2.2) (shaped_dV lf.2.2) (eg_meth (R := R_Coset_base K) (T := tV K lf.2.2) (cos M _ H1 (Ex.refl _) rfl) rfl ega_nil ⟨m, n, lf.2.1, lf.2.2, rfl, rfl⟩).ed (ed_ixL (ds := some_.map dV) (atI_nat' (k := 0) (by rw [List.getElem?_map, ha.one.first hm0]; rfl)) (ed_var rfl hz) ed_int))).to (by rw [eqv_dV]; simp)).to rfl) (fun z => by cases z) fun _ H2 e2 => ?_
    dsimp only [tNext]
    have hz2 := Dp.mono hz (hide_ex (M := M) e2)
    have e02 := e1.trans e2
    refine sd_if (b := false) (hM.ex e02) ((et_test (ed_neD (K := K) (d1 := .list []) (d2 := .list []) rfl rfl ((ed_lcL (K := K) (src := some_) (g := dV) (ed_var rfl hz2) (by have := ha.slen; omega) (fun _ => false) dV (fun _ => rfl) (fun M' H' x u ex hM' hu hx => ?_) fun M' H' x u ex hM' hu z _ => by cases z).to (by rw [filt_none]; rfl)) (ed_lst (by simp) ea_nil))).to rfl) (fun z => by cases z) fun _ H3 e3 => ?_
    · have hmem := (ha.one.mems u).mp hu
      have huv := hmem.1
      have hred : WM.red m lf.2.1 (WM.comb m 1 u (-1) lf.2.2) = zeros n := by
        have hV : WM.Vec m n (WM.comb m 1 u (-1) lf.2.2) := WM.Vec.comb hm0 huv.len hc.vec.len
        have := (hc.tab.red_mem hm0 hV).mpr (hmem.2.cg fun i => by
          have := WM.comb_cg (m := (m : Int)) (a := 1) (b := -1) (u := u) (v := lf.2.2) (by rw [huv.len, hc.vec.len]) i
          rwa [show (1 : Int) * WM.at_ u i + -1 * WM.at_ lf.2.2 i = WM.at_ u i - WM.at_ lf.2.2 i by omega] at this)
        refine WM.at_ext (by rw [(WM.red_vec hm0 hc.tab.piv.ok hV).len]; simp) fun i _ => by rw [this i, at_zeros]
      exact (et_not (b := true) (et_B ((eg_meth (R := R_Coset_contains K) (T := tB K true) (cos M' _ H' ((hide_ex e2).trans ex) rfl) rfl (ega_d (ed_var (K := K) rfl hx) ega_nil) ⟨m, n, lf.2.1, lf.2.2, u, rfl, by omega, by omega, by omega, by omega, hc, huv, by rw [hred]; simp⟩).ed))).to rfl
    dsimp only [tNext]
    have hy3 := Dp.mono hy (hide_ex (M := M) (e2.trans e3))
    have h33 := Dp.mono h31 (hide_ex (M := M) (e2.trans e3))
    have h23 := Dp.mono h21 (hide_ex (M := M) (e2.trans e3))
    have hz3 := Dp.mono hz2 (hide_ex (M := M) e3)
    have e03 := e02.trans e3
    have hwin := ha.win
    have hkl := ha.klen
    have hleft := ha.one.left hm0 ha.win ha.mems
    have hknown := ha.one.known hm0 ha.win ha.mems wt
    refine sd_set (K := K) (d := dL ((WM.pairsOf m wk ks).map Prod.fst)) (hM.ex e03) (eg_call (R := R_law_first_left K) (ega_d (ed_varI rfl) (ega_d (ed_var (K := K) rfl h33) (ega_d (ed_var (K := K) rfl hy3) ega_nil))) ⟨m, n, ks, wk, rfl, hm0, by omega, by omega, by omega, ha.mems.vec, fun u hu => ⟨(hwin u (ha.sub u hu)).src, (hwin u (ha.sub u hu)).tgt, (hwin u (ha.sub u hu)).pane.1⟩, rfl⟩).ed fun vl H4 e4 hl => ?_
    dsimp only
    refine sd_set (K := K) (d := .tuple [.int (WM.known m lf.2.1 wt), .int (WM.dot wt (WM.at_ lf.2.2) % m % WM.known m lf.2.1 wt)]) (hM.ex (e03.trans e4)) (eg_meth (R := R_Coset_known K) (cos M _ H4 (hide_ex ((e2.trans e3).trans e4)) rfl) rfl (ega_d (ed_var (K := K) rfl (Dp.mono h23 (hide_ex e4))) ega_nil) ⟨m, n, lf.2.1, lf.2.2, wt, rfl, by omega, by omega, by omega, hc, ha.wt, rfl⟩).ed fun vk H5 e5 hk => ?_
    dsimp only
    have hl5 := Dp.mono hl (hide_ex (M := M) e5)
    have hz5 := Dp.mono hz3 (hide_ex (M := M) (e4.trans e5))
    have h25 := Dp.mono h23 (hide_ex (M := M) (e4.trans e5))
    have e05 := (e03.trans e4).trans e5
    refine sd_ret (K := K) (d := .bool true) (hM.ex e05) ((ed_and (b := true) (c := true) ((ed_eqI ((ed_len (ds := ((WM.pairsOf m wk ks).map Prod.fst).map dV) (ed_var (K := K) rfl hl5)).to (by rw [List.length_map, hleft])) ((ed_len (ds := some_.map dV) (ed_var (K := K) rfl hz5)).to (by rw [List.length_map]))).bool (by simp)) fun _ => (ed_eqI (ed_ixT (ds := [.int (WM.known m lf.2.1 wt), .int (WM.dot wt (WM.at_ lf.2.2) % m % WM.known m lf.2.1 wt)]) (d := .int (WM.known m lf.2.1 wt)) rfl (ed_var (K := K) rfl hk) ed_int) (ed_call (K := K) (d := .int (WM.gcdL m (((WM.pairsOf m wk ks).map Prod.fst).map fun x => WM.dot wt (WM.at_ x) % m))) (R := R_law_divisor K) (ega_d (ed_varI rfl) (ega_d (ed_var (K := K) rfl h25) (ega_d (ed_var (K := K) rfl hl5) ega_nil))) ⟨m, wt, _, n, rfl, hm0, vec_sm ha.wt hm0 (by omega) (by omega), ha.wt.len, fun x hx => (ha.mems.vec x (WM.left_mem.mp hx).1).len, rfl⟩)).bool (by rw [hknown]; simp)).bool rfl) fun v H6 e6 h => hq v H6 (e05.trans e6) h)
end
end WL
end
section
set_option Elab.async false
set_option linter.all false
set_option maxRecDepth 100000
set_option maxHeartbeats 4000000
/-! D31: _law_leaves_right. -/
namespace WL
open PySem PySem.Spec PyProof.Rows L2 Evl HeadW
theorem pe_dgetSK {X : Cx} {K : PySem.W.Frag} {o i : Expr} {pos : Pos} {td ty : TE} (h : X.K = K) (hu : X.A.units + 1 < cLine) (ho : PE X o td) (hi : PE X i ty) (hs : NoSl i) : PE X (.Subscript o i pos) (tDGetS K td ty) := h ▸ pe_dgetS hu ho hi hs
section
variable {K : PySem.W.Frag} {M : List Addr} {σ : L2.St} {H H' : Hp} {te ta tb tx tv : TE} {T T1 T2 : Ty} {Ts : List Ty} {D : Ends} {i j : Nat} {Q : L2.St → Hp → Prop}
theorem g_tupU3 {v : V} {A B C : Ty} {i1 i2 i3 : Nat} (h : (tyU K [A, B, C]).p v (hide M H)) (k : ∀ x y z, A.p x (hide M H) → B.p y (hide M H) → C.p z (hide M H) → Q (((σ.set i1 (some x)).set i2 (some y)).set i3 (some z)) H) :
    gTup K 3 (gCons (gName i1) (gCons (gName i2) (gCons (gName i3) gNil))) v σ H Q := by
  obtain ⟨a, xs, rfl, hs, hx⟩ := h
  obtain ⟨x, y, z, rfl, h1, h2, h3⟩ := allT3 hx
  exact ⟨a, [x, y, z], rfl, ex_t (hide_sub _ _) hs, rfl, x, [y, z], rfl, y, [z], rfl, z, [], rfl, rfl, k x y z h1 h2 h3⟩
theorem g_tupU4 {v : V} {A B C E : Ty} {i1 i2 i3 i4 : Nat} (h : (tyU K [A, B, C, E]).p v (hide M H)) (k : ∀ x y z u, A.p x (hide M H) → B.p y (hide M H) → C.p z (hide M H) → E.p u (hide M H) → Q ((((σ.set i1 (some x)).set i2 (some y)).set i3 (some z)).set i4 (some u)) H) :
    gTup K 4 (gCons (gName i1) (gCons (gName i2) (gCons (gName i3) (gCons (gName i4) gNil)))) v σ H Q := by
  obtain ⟨a, xs, rfl, hs, hx⟩ := h
  obtain ⟨x, y, z, u, rfl, h1, h2, h3, h4⟩ := allT4 hx
  exact ⟨a, [x, y, z, u], rfl, ex_t (hide_sub _ _) hs, rfl, x, [y, z, u], rfl, y, [z, u], rfl, z, [u], rfl, u, [], rfl, rfl, k x y z u h1 h2 h3 h4⟩
theorem g_tupU2 {v : V} {A B : Ty} {i1 i2 : Nat} (h : (tyU K [A, B]).p v (hide M H)) (k : ∀ x y, A.p x (hide M H) → B.p y (hide M H) → Q ((σ.set i1 (some x)).set i2 (some y)) H) :
    gTup K 2 (gCons (gName i1) (gCons (gName i2) gNil)) v σ H Q := by
  obtain ⟨a, xs, rfl, hs, hx⟩ := h
  obtain ⟨x, y, rfl, h1, h2⟩ := allT2 hx
  exact ⟨a, [x, y], rfl, ex_t (hide_sub _ _) hs, rfl, x, [y], rfl, y, [], rfl, rfl, k x y h1 h2⟩
theorem s_newT (k : ∀ p, H p = none → D.nx (σ.set i (some (.ref p))) (upd H p (.dT []))) : tAsg tDNewT (gName i) D σ H := fun p hp => k p hp
theorem s_parG {ta : TA} (hM : MOk M H) (h : EGA M ta σ H [T1, T2]) (k : ∀ v w H1, Ex H H1 → T1.p v (hide M H1) → T2.p w (hide M H1) → D.nx ((σ.set i (some v)).set j (some w)) H1) : tPar i j ta D σ H :=
  h hM H (Ex.refl H) _ fun vs H1 e h1 => by
    obtain ⟨v, w, rfl, a, b⟩ := allT2 h1
    exact ⟨v, w, rfl, k v w H1 e a b⟩
/-- d.get(k, x), k a tuple of ints -/
theorem ed_dget2T {d b : Addr} {kvs : List (List Key × V)} {k : List Int} {d0 dd : PyData} (hj : σ[j]? = some (some (.ref d))) (hd : H d = some (.dT kvs)) (hi : σ[i]? = some (some (.ref b))) (hb : H b = some (.tup (k.map V.int))) (hx : ED K M tx σ H d0) (h0 : valV kvs (encK k) = none → d0 = dd) (h1 : ∀ v, valV kvs (encK k) = some v → Dp K (hide M H) v dd) :
    ED K M (tDGet2 (tVar j) (tVar i) tx) σ H dd := fun hM H1 e Q q =>
  ⟨_, hj, d, rfl, .inr ⟨kvs, .inl (e d _ hd)⟩, _, hi, hx hM H1 e _ fun z H2 e2 hz => ⟨_, DGet.t ((e.trans e2) d _ hd) (by rw [kv_encK]; exact (e.trans e2) b _ hb), by
    cases ho : valV kvs (encK k) with
    | none => exact q z H2 e2 (by rw [← h0 ho]; exact hz)
    | some v => exact q v H2 e2 ((h1 v ho).mono (hide_ex (e.trans e2)))⟩⟩
theorem s_dputV {d b : Addr} {kvs : List (List Key × V)} {k : List Int} (hM : MOk M H) (hv : EG M tv σ H T) (hj : σ[j]? = some (some (.ref d))) (hd : H d = some (.dT kvs)) (hi : σ[i]? = some (some (.ref b))) (hb : H b = some (.tup (k.map V.int))) (hz : kvs.length < 200000)
    (q : ∀ v H1, Ex H H1 → T.p v (hide M H1) → D.nx σ (upd H1 d (.dT (putK kvs (encK k) v)))) : sDPut (tVar j) (tVar i) tv D σ H :=
  hv hM H (Ex.refl H) _ fun v H1 e1 h1 => ⟨.ref d, hj, .ref b, hi, d, _, rfl, DPut.t (e1 d _ hd) (by rw [kv_encK]; exact e1 b _ hb) (sz_of' hz), q v H1 e1 h1⟩
/-- d[k], k a tuple of ints -/
theorem ed_dgetST {d : Addr} {kvs : List (List Key × V)} {k : List Int} {v : V} {dd : PyData} (hj : σ[j]? = some (some (.ref d))) (hd : H d = some (.dT kvs)) (hk : ED K M te σ H (dV k)) (hv : valV kvs (encK k) = some v) (hvd : Dp K (hide M H) v dd) : ED K M (tDGetS K (tVar j) te) σ H dd := fun hM H1 e Q q =>
  ⟨_, hj, hk hM H1 e _ fun y H2 e2 hy => by
    obtain ⟨b, rfl, hs⟩ := dp_vec hy
    exact ⟨d, b, kvs, encK k, v, rfl, rfl, .inl ((e.trans e2) d _ hd), by rw [kv_encK]; exact ex_t (hide_sub _ _) hs, hv, q v H2 e2 (hvd.mono (hide_ex (e.trans e2)))⟩⟩
theorem ed_catD {as bs : List PyData} (hl : as.length + bs.length ≤ 100000) (ha : ED K M ta σ H (.list as)) (hb : ED K M tb σ H (.list bs)) : ED K M (tOp (rCatS K) ta tb) σ H (.list (as ++ bs)) :=
  EG.dl ((eg_catL (K := K) (by simpa using hl) (EG.l ha) (EG.l hb)).to (by rw [List.map_append]))
end
/-! what a plan's text is -/
theorem wid_pos {ws : List W} {m : Int} {n st : Nat} (hw : ∀ u ∈ ws, WM.WinOk m n st u) {p : Pl} {mk k : Nat} (h : WM.PlanOk ws p mk k) : 1 ≤ wid p := by
  induction h with
  | none => simp [wid]
  | @look nm subs mk u mk' k h1 h2 h3 h4 ih =>
    have := (hw u h1.1).pane
    rw [wid_look]
    cases subs with
    | nil => simp at h3; omega
    | cons a r =>
      have := ih a (by simp)
      rw [List.map_cons, List.sum_cons]
      omega
theorem bulk_sum {c : Nat} : ∀ {subs : List Pl}, (∀ p ∈ subs, (dPlan p).bulk + 1 ≤ c * wid p) → PyData.bulkAll (subs.map dPlan) ≤ c * (subs.map wid).sum
  | [], _ => by simp [PyData.bulkAll]
  | p :: subs, h => by
    have h1 := h p (by simp)
    have h2 := bulk_sum (subs := subs) fun q hq => h q (by simp [hq])
    rw [List.map_cons, List.map_cons, List.sum_cons, Nat.mul_add]
    simp only [PyData.bulkAll]
    omega
theorem plan_bulk {ws : List W} {m : Int} {n st : Nat} (hw : ∀ u ∈ ws, WM.WinOk m n st u ∧ NameOk u.name) {p : Pl} {mk k : Nat} (h : WM.PlanOk ws p mk k) : (dPlan p).bulk ≤ 11 * k * wid p := by
  induction h with
  | none => simp [dPlan, PyData.bulk]
  | @look nm subs mk u mk' k h1 h2 h3 h4 ih =>
    have hwid := wid_pos (fun u hu => (hw u hu).1) (WM.PlanOk.look (k := k) h1 h2 h3 h4)
    rw [wid_look] at hwid
    have hnm := (hw u h1.1).2
    rw [h1.2.1] at hnm
    have hlen := hnm.2.1
    have hs : PyData.bulkAll (subs.map dPlan) ≤ (11 * k + 1) * (subs.map wid).sum := bulk_sum fun q hq => by
      have a1 := ih q hq
      have a2 := wid_pos (fun u hu => (hw u hu).1) (h4 q hq)
      rw [Nat.add_mul]
      omega
    have hb : nm.cps.size ≤ 8 := hlen
    rw [dPlan_look, wid_look]
    simp only [PyData.bulk, PyData.bulkAll]
    rw [Nat.mul_add, Nat.add_mul]
    rw [Nat.add_mul] at hs
    omega
theorem plan_sho {ws : List W} {m : Int} {n st : Nat} (hw : ∀ u ∈ ws, WM.WinOk m n st u ∧ NameOk u.name) {p : Pl} {mk k : Nat} (h : WM.PlanOk ws p mk k) : ∃ b, Sho b (2 * k) (dPlan p) := by
  induction h with
  | none => exact ⟨0, by rw [dPlan_none]; exact shoN.wk (Nat.le_refl _) (by omega)⟩
  | @look nm subs mk u mk' k h1 h2 h3 h4 ih =>
    have hnm := (hw u h1.1).2
    rw [h1.2.1] at hnm
    have hB : ∃ B, ∀ q ∈ subs, Sho B (2 * k) (dPlan q) := by
      clear h3
      induction subs with
      | nil => exact ⟨0, fun _ h => nomatch h⟩
      | cons a r ih2 =>
        obtain ⟨b1, hb1⟩ := ih a (by simp)
        obtain ⟨b2, hb2⟩ := ih2 (fun q hq => h4 q (by simp [hq])) fun q hq => ih q (by simp [hq])
        refine ⟨b1 + b2, fun q hq => ?_⟩
        rcases List.mem_cons.mp hq with e | e
        · rw [e]; exact hb1.wk (by omega) (Nat.le_refl _)
        · exact (hb2 q e).wk (by omega) (Nat.le_refl _)
    obtain ⟨B, hB⟩ := hB
    have hl := shoL (b := B) (n := 2 * k) (ds := subs.map dPlan) fun d hd => by
      obtain ⟨q, hq, rfl⟩ := List.mem_map.mp hd
      exact hB q hq
    rw [dPlan_look]
    refine ⟨_, (shoU (b := nm.length + (subs.map dPlan).length * (B + 1)) (n := 2 * k + 1) fun d hd => ?_).wk (Nat.le_refl _) (by omega)⟩
    simp only [List.mem_cons, List.not_mem_nil, or_false] at hd
    rcases hd with e | e
    · rw [e]; exact (shoS (name_lay hnm)).wk (by omega) (by omega)
    · rw [e]; exact hl.wk (by omega) (Nat.le_refl _)
theorem plan_shown {ws : List W} {m : Int} {n st : Nat} (hw : ∀ u ∈ ws, WM.WinOk m n st u ∧ NameOk u.name) {p : Pl} {mk : Nat} (h : WM.PlanOk ws p mk 3) (hwid : wid p ≤ 1000) : Sho (2 ^ 20) 6 (dPlan p) := by
  obtain ⟨b, hb⟩ := plan_sho hw h
  have := plan_bulk hw h
  have h2 : 11 * 3 * wid p ≤ 33 * 1000 := Nat.mul_le_mul (by omega) hwid
  exact ⟨hb.lay, hb.shw, hb.shr, by omega⟩
theorem plan_disp (p : Pl) : dPlan p = .none ∨ isDisplay (dPlan p) = true := by
  cases p with
  | none => exact .inl dPlan_none
  | look nm subs => rw [dPlan_look]; exact .inr rfl
/-- what the law keeps of the positions met: their readings, and for each of them walk and positions -/
structure Taken (K : PySem.W.Frag) (M : List Addr) (H : Hp) (rd : List Int → List Int) (wf : List Int → List W) (xs : List (List Int)) (kvs : List (List Key × V)) (keys : List (List Int)) : Prop where
  key : kvs.map (·.1) = keys.map encK
  nd : keys.Nodup
  mem : ∀ r, r ∈ keys ↔ ∃ x ∈ xs, rd x = r
  len : keys.length ≤ xs.length
  val : ∀ x ∈ xs, ∃ v, valV kvs (encK (rd x)) = some v ∧ Dp K (hide M H) v (dBranch (rd x) (wf x) (xs.filter fun y => rd y = rd x))
theorem Taken.up {K : PySem.W.Frag} {M : List Addr} {H H' : Hp} {rd : List Int → List Int} {wf : List Int → List W} {xs : List (List Int)} {kvs : List (List Key × V)} {keys : List (List Int)} (h : Taken K M H rd wf xs kvs keys) (e : Ex (hide M H) (hide M H')) : Taken K M H' rd wf xs kvs keys :=
  ⟨h.key, h.nd, h.mem, h.len, fun x hx => by
    obtain ⟨v, h1, h2⟩ := h.val x hx
    exact ⟨v, h1, h2.mono e⟩⟩
/-- the positions with some readings, so far -/
theorem Taken.prev {K : PySem.W.Frag} {M : List Addr} {H : Hp} {rd : List Int → List Int} {wf : List Int → List W} {xs : List (List Int)} {kvs : List (List Key × V)} {keys : List (List Int)} (h : Taken K M H rd wf xs kvs keys) (r : List Int) : (valV kvs (encK r) = none → (xs.filter fun y => rd y = r) = []) ∧ ∀ v, valV kvs (encK r) = some v → ∃ x ∈ xs, rd x = r ∧ Dp K (hide M H) v (dBranch r (wf x) (xs.filter fun y => rd y = r)) := by
  have hk := keySome h.key r
  refine ⟨fun e => ?_, fun v e => ?_⟩
  · rw [e] at hk
    have : r ∉ keys := by simpa using hk.symm
    rw [h.mem] at this
    refine List.filter_eq_nil_iff.mpr fun y hy z => this ⟨y, hy, by simpa using z⟩
  · rw [e] at hk
    have : r ∈ keys := by simpa using hk.symm
    obtain ⟨x, hx, rfl⟩ := (h.mem r).mp this
    obtain ⟨u, h1, h2⟩ := h.val x hx
    rw [e] at h1
    injection h1 with h1
    exact ⟨x, hx, rfl, by rw [h1]; exact h2⟩
theorem Taken.put {K : PySem.W.Frag} {M : List Addr} {H H' : Hp} {rd : List Int → List Int} {wf : List Int → List W} {xs : List (List Int)} {x : List Int} {v : V} {kvs : List (List Key × V)} {keys : List (List Int)} (h : Taken K M H rd wf xs kvs keys) (e : Ex (hide M H) (hide M H')) (hw : ∀ y ∈ xs, rd y = rd x → wf y = wf x) (hv : Dp K (hide M H') v (dBranch (rd x) (wf x) ((xs.filter fun y => rd y = rd x) ++ [x]))) :
    Taken K M H' rd wf (xs ++ [x]) (putK kvs (encK (rd x)) v) (addK keys (rd x)) := by
  have hf : ((xs ++ [x]).filter fun y => rd y = rd x) = (xs.filter fun y => rd y = rd x) ++ [x] := by rw [List.filter_append]; simp
  refine ⟨putK_keys h.key _ _, nodup_addK h.nd, fun r => ?_, ?_, fun y hy => ?_⟩
  · rw [mem_addK, h.mem]
    constructor
    · rintro (⟨y, hy, z⟩ | z)
      · exact ⟨y, by simp [hy], z⟩
      · exact ⟨x, by simp, z.symm⟩
    · rintro ⟨y, hy, z⟩
      rcases List.mem_append.mp hy with u | u
      · exact .inl ⟨y, u, z⟩
      · rw [List.mem_singleton.mp u] at z
        exact .inr z.symm
  · have := h.len
    unfold addK
    split
    · simp; omega
    · simp; omega
  · by_cases z : rd y = rd x
    · refine ⟨v, by rw [valV_put, if_pos (by rw [z])], ?_⟩
      rw [z, hf]
      have : wf y = wf x := by
        rcases List.mem_append.mp hy with u | u
        · exact hw y u z
        · rw [List.mem_singleton.mp u]
      rw [this]
      exact hv
    · have hy : y ∈ xs := by
        rcases List.mem_append.mp hy with u | u
        · exact u
        · exact absurd (by rw [List.mem_singleton.mp u]) z
      obtain ⟨u, h1, h2⟩ := h.val y hy
      refine ⟨u, by rw [valV_put, if_neg (fun q => z (encK_inj q))]; exact h1, ?_⟩
      have : ((xs ++ [x]).filter fun q => rd q = rd y) = xs.filter fun q => rd q = rd y := by
        rw [List.filter_append]
        have : ¬ rd x = rd y := fun q => z q.symm
        simp [this]
      rw [this]
      exact h2.mono e
section
variable {w : World} {K : PySem.W.Frag} {mg : Str → Option Value} {base : Heap}
abbrev N_law_leaves_right : List Str := ["_law_problem", "_law_case", "_law_plan_here", "_law_weights", "_law_modulus", "_law_windows_here", "_law_cabinet_here", "_law_start", "_law_coset_here", "_law_lot", "_law_members_here", "_law_taken", "_law_one", "_law_readings", "_law_walk", "_law_kept", "_law_found", "_law_leaf", "_law_good"]
theorem sc_law_leaves_right : FnScope N_law_leaves_right ["_law_problem", "_law_case", "_law_plan_here", "_law_weights"] d_law_leaves_right.scope := ⟨rfl, rfl, rfl, by decide +kernel, rfl, by decide +kernel, by decide +kernel⟩
theorem bi_law_leaves_right (kV doc pm : Value) (an : Option Addr) (cdv ct : Value) (us : List Value) (hl : us.length = 4) : bindArgs (PySem.W.fnOf d_law_leaves_right.name d_law_leaves_right.qual d_law_leaves_right.params d_law_leaves_right.body d_law_leaves_right.scope .none kV doc pm an cdv ct) ⟨us, []⟩ = pure ((["_law_problem", "_law_case", "_law_plan_here", "_law_weights"] : List Str).zip us) := by
  match us, hl with
  | [_, _, _, _], _ => rfl

structure CaseOk (m n st : Nat) (ws : List W) (vs : List (List Int)) (L : WM.Pv) (b : List Int) (lot ks : List (List Int)) : Prop where
  wlen : ws.length ≤ 20
  win : ∀ u ∈ ws, WM.WinOk m n st u ∧ NameOk u.name
  cos : WM.Cos m n L b
  span : ∀ f, WM.In m (WM.Gen L) f ↔ WM.In m (WM.GenV vs) f
  srt : lot.Pairwise WM.LLt
  all : ∀ x, x ∈ lot ↔ WM.Mem m n L b x
  llen : lot.length ≤ 256
  mems : WM.Mems m n vs ks
  klen : ks.length ≤ 256
abbrev tyProb (K : PySem.W.Frag) (m n st : Nat) (ws : List W) (mk : Nat) : Ty := tyU K [tI K m, dat K (dWins ws), tyCab K m n st ws, tI K mk]
abbrev tyCase (K : PySem.W.Frag) (m n : Nat) (L : WM.Pv) (b : List Int) (lot ks : List (List Int)) : Ty := tyU K [tyCoset K m n L b, dat K (dL lot), dat K (dL ks)]
def R_law_leaves_right (K : PySem.W.Frag) (Ts : List Ty) (T : Ty) : Prop := ∃ (m n st : Nat) (ws : List W) (vs : List (List Int)) (L : WM.Pv) (b : List Int) (lot ks : List (List Int)) (p : Pl) (mk : Nat) (wt : List Int), Ts = [tyProb K m n st ws mk, tyCase K m n L b lot ks, dat K (dPlan p), tV K wt] ∧ 2 ≤ m ∧ m ≤ 60 ∧ 1 ≤ n ∧ n ≤ 6 ∧ CaseOk m n st ws vs L b lot ks ∧ WM.PlanOk ws p mk 3 ∧ wid p ≤ 1000 ∧ WM.Vec m n wt ∧ T = tB K true
theorem calG_law_leaves_right (G : Glb w K mg base) : CalG PP w K mg base 15 "_law_leaves_right" (SpT (R_law_leaves_right K)) :=
  calG_mk G 76 (d := d_law_leaves_right) rfl rfl G.g_law_leaves_right rfl (k := 14) sc_law_leaves_right (spT_len fun Ts T ⟨_, _, _, _, _, _, _, _, _, _, _, _, h, _⟩ => by rw [h]; rfl) bi_law_leaves_right (fun f cdv A outer s H vs0 Q E hr hgd hsp => by
    obtain ⟨M, Ts, T, hM, hv, ⟨m, n, st, ws, vs, L, b, lot, ks, p, mk, wt, rfl, hm, hm2, hn, hn2, hc, hp, hwid, hwt, rfl⟩, hq⟩ := hsp
    obtain ⟨v1, v2, v3, v4, rfl, h1, h2, h3, h4⟩ := allT4 hv
    have hm0 : (0 : Int) < m := by omega
    have hwin : ∀ u ∈ ws, WM.WinOk m n st u := fun u hu => (hc.win u hu).1
    obtain ⟨rd, wf, hplay⟩ := WM.plays_fun hm0 hwin hp
    have hlv : ∀ x ∈ lot, WM.Vec m n x := fun x hx => ((hc.all x).mp hx).1
    refine ⟨_, (pss_cons (ps_asg (pv 0) (pg_tup rfl (pgs_cons (pg_name (i := 4) sc_law_leaves_right.nd rfl (by first | exact Or.inl rfl | exact Or.inr rfl)) (pgs_cons (pg_name (i := 5) sc_law_leaves_right.nd rfl (by first | exact Or.inl rfl | exact Or.inr rfl)) (pgs_cons (pg_name (i := 6) sc_law_leaves_right.nd rfl (by first | exact Or.inl rfl | exact Or.inr rfl)) (pgs_cons (pg_name (i := 7) sc_law_leaves_right.nd rfl (by first | exact Or.inl rfl | exact Or.inr rfl)) pgs_nil))))))
      (pss_cons (ps_asg (pv 1) (pg_tup rfl (pgs_cons (pg_name (i := 8) sc_law_leaves_right.nd rfl (by first | exact Or.inl rfl | exact Or.inr rfl)) (pgs_cons (pg_name (i := 9) sc_law_leaves_right.nd rfl (by first | exact Or.inl rfl | exact Or.inr rfl)) (pgs_cons (pg_name (i := 10) sc_law_leaves_right.nd rfl (by first | exact Or.inl rfl | exact Or.inr rfl)) pgs_nil)))))
      (pss_cons (ps_set (i := 11) sc_law_leaves_right.nd rfl (by first | exact Or.inl rfl | exact Or.inr rfl) pe_dnewT)
      (pss_cons (ps_for PassesOwn.never rfl (pi_list (pv 9)) (pg_name (i := 12) sc_law_leaves_right.nd rfl (by first | exact Or.inl rfl | exact Or.inr rfl)) (pss_cons (ps_asg (C8.pe_c (cal_law_played G) hr (by decide) (by rfl) (pa_cons (pv 4) (pa_cons (pv 5) (pa_cons (pv 7) (pa_cons (pv 12) (pa_cons (pv 2) pa_nil)))))) (pg_tup rfl (pgs_cons (pg_name (i := 13) sc_law_leaves_right.nd rfl (by first | exact Or.inl rfl | exact Or.inr rfl)) (pgs_cons (pg_name (i := 14) sc_law_leaves_right.nd rfl (by first | exact Or.inl rfl | exact Or.inr rfl)) pgs_nil))))
      (pss_one (ps_dput (hu_of hr) (pv 11) (pv 13) (pe_tup (pa_cons (pv 13) (pa_cons (pv 14) (pa_cons (pe_op op_catS (pe_ix ix_tup (pe_dget2 (hu_of hr) (pv 11) (pv 13) (pe_tup (pa_cons (pe_tup pa_nil) (pa_cons (pe_lst pa_nil) (pa_cons (pe_lst pa_nil) pa_nil)))) ⟨by rfl, by rfl, by rfl, by rfl⟩) pe_int (fun _ _ => rfl)) (pe_lst (pa_cons (pv 12) pa_nil))) pa_nil)))) rfl))))
      (pss_cons (ps_par (i := 15) (j := 16) (by rfl) sc_law_leaves_right.nd rfl rfl (by decide) rfl rfl (pa_cons (pe_callB (id := "repr") (call_reprG hgd hr.units) (by rfl) G.f_repr (by decide +kernel) (pa_cons (pv 2) pa_nil)) (pa_cons (C8.pe_c (cal_leaves G) hr (by decide) (by rfl) (pa_cons (pv 6) (pa_cons (pv 7) (pa_cons (pv 8) (pa_cons (pv 2) pa_nil))))) pa_nil)) (by rfl))
      (pss_cons (ps_if (PW.pt (pw_or (pt_cmpR op_ne (pe_callB (id := "repr") (call_reprG hgd hr.units) (by rfl) G.f_repr (by decide +kernel) (pa_cons (pv 2) pa_nil)) (pv 15) (nomark _)) (pw_or (pt_not (pt_val (C8.pe_c (cal_law_are_leaves G) hr (by decide) (by rfl) (pa_cons (pv 16) pa_nil)))) (pw_or1 (pt_cmpR (op_neD hr.units) (pe_lc (own := [("_law_leaf", 17)]) (g := (gName 17)) (tt := tYes) rfl sc_law_leaves_right.nd (pi_list (pv 16)) (blkOk_by (N := N_law_leaves_right) (sc := d_law_leaves_right.scope) (by decide +kernel)) (fun _ _ _ _ _ => (pg_name (i := 17) sc_law_leaves_right.nd rfl (by first | exact Or.inl rfl | exact Or.inr rfl))) (fun _ _ _ _ _ => pts_nil) (fun _ _ _ _ _ => (pe_ix (ix_tupK (K := K) rfl) (pv 17) pe_int (fun _ _ => rfl)))) (pe_callB (id := "sorted") (call_sortedDT rfl hr.units) (by rfl) G.f_sorted (by decide +kernel) (pa_cons (pv 11) pa_nil)) (nomark _)))))) (pss_one (ps_ret pe_bl)) pss_nil)
      (pss_cons (ps_set (i := 18) sc_law_leaves_right.nd rfl (by first | exact Or.inl rfl | exact Or.inr rfl) (pe_callB (id := "all") (cr_all rfl) (by rfl) G.f_all (by decide +kernel) (pa_cons (pe_lc (own := [("_law_leaf", 17)]) (g := (gName 17)) (tt := tYes) rfl sc_law_leaves_right.nd (pi_list (pv 16)) (blkOk_by (N := N_law_leaves_right) (sc := d_law_leaves_right.scope) (by decide +kernel)) (fun _ _ _ _ _ => (pg_name (i := 17) sc_law_leaves_right.nd rfl (by first | exact Or.inl rfl | exact Or.inr rfl))) (fun _ _ _ _ _ => pts_nil) (fun _ _ _ _ _ => (pe_cG (calG_law_leaf_right G) hr hgd (by decide) (by rfl) (pa_cons (pv 4) (pa_cons (pv 3) (pa_cons (pv 10) (pa_cons (pe_dgetSK (K := K) rfl (hu_of hr) (pv 11) (pe_ix (ix_tupK (K := K) rfl) (pv 17) pe_int (fun _ _ => rfl)) (fun _ _ => rfl)) (pa_cons (pv 17) pa_nil)))))))) pa_nil)))
      (pss_cons (ps_expr (pe_bm PySem.F.plainAttrs_list PySem.F.slot_list_append PySem.F.type_list_append mt_append (pv 16) (pa_cons pe_int pa_nil)))
      (pss_one (ps_ret (pv 18))))))))))), ?_⟩
    refine sg_bind hM (eg_var (T := tyProb K m n st ws mk) rfl h1) fun vb H1 e1 hb => ?_
    refine g_tupU4 (K := K) hb fun x4 x5 x6 x7 hx4 hx5 hx6 hx7 => ?_
    cases dp_int hx4
    cases dp_int hx7
    dsimp only
    refine sg_bind (hM.ex e1) (eg_var (T := tyCase K m n L b lot ks) rfl ((tyCase K m n L b lot ks).up (hide_ex e1) h2)) fun vb2 H2 e2 hb2 => ?_
    refine g_tupU3 (K := K) hb2 fun x8 x9 x10 hx8 hx9 hx10 => ?_
    dsimp only
    have e02 := e1.trans e2
    -- the dict
    refine s_newT fun d hd0 => ?_
    dsimp only
    have hdH : H d = none := none_of e02 hd0
    have hdM : d ∉ M := hM.new hdH
    have f3 : Fr [] M H (d :: M) (upd H2 d (.dT [])) := ((Fr.refl hM).gex e02).new hd0
    have dd3 : (upd H2 d (.dT [])) d = some (.dT []) := upd_same
    have up3 : Ex (hide M H2) (hide (d :: M) (upd H2 d (.dT []))) := (hide_cons hd0).trans (hide_ex (Ex.new hd0))
    have h33 := Dp.mono h3 f3.vis
    have hx53 := Dp.mono (Dp.mono hx5 (hide_ex e2)) up3
    have hx63 := (tyCab K m n st ws).up up3 ((tyCab K m n st ws).up (hide_ex e2) hx6)
    have hx83 := (tyCoset K m n L b).up up3 hx8
    have hx93 := Dp.mono hx9 up3
    have hx103 := Dp.mono hx10 up3
    have h43 := Dp.mono h4 f3.vis
    generalize upd H2 d (.dT []) = H3 at f3 dd3 h33 hx53 hx63 hx83 hx93 hx103 h43
    refine s_for f3.ok (ei_ld (K := K) (src := lot) (f := dV) (ed_var rfl hx93)) (d :: M) (fun HH i σ' H' => ∃ y12 y13 y14 kvs keys, σ' = [some v1, some v2, some v3, some v4, some (.int (m : Int)), some x5, some x6, some (.int (mk : Int)), some x8, some x9, some x10, some (.ref d), y12, y13, y14, none, none, none, none] ∧ Fr [d] (d :: M) HH (d :: M) H' ∧ H' d = some (.dT kvs) ∧ Taken K (d :: M) H' rd wf (lot.take i) kvs keys) (fun HH i σ' H' e ⟨_, _, _, _, _, _, fr, _⟩ => ⟨fr.vis, fr.ok⟩) (fun HH e => ⟨_, _, _, [], [], rfl, Fr.refl1 (f3.ok.ex e), e d _ dd3, by rw [List.take_zero]; exact ⟨rfl, .nil, (fun r => by simp), Nat.le_refl _, fun x hx => by cases hx⟩⟩) ?_ ?_
    · rintro HH i x xv σ' H' H4 e hi ⟨y12, y13, y14, kvs, keys, rfl, fr, hd, ht⟩ e4 hxv
      dsimp only
      have hxl : x ∈ lot := List.mem_of_getElem? hi
      have hxV := hlv x hxl
      have hpl := hplay x hxV
      have fr4 := fr.gex e4
      have hd4 := e4 d _ hd
      have ht4 := ht.up (hide_ex e4)
      have ex34 : Ex (hide (d :: M) H3) (hide (d :: M) H4) := (hide_ex e).trans fr4.vis
      have hshort := WM.plays_short hp hpl
      refine sg_bind fr4.ok (eg_call (T := tyU K [tyVP (rd x), dat K (dWins (wf x))]) (R := R_law_played K) (ega_d (ed_varI (K := K) rfl) (ega_d (ed_var (K := K) (d := dWins ws) rfl (hx53.mono ex34)) (ega_d (ed_varI (K := K) rfl) (ega_d (ed_var (K := K) (d := dV x) rfl hxv) (ega_d (ed_var (K := K) (d := dPlan p) rfl (Dp.mono h33 ex34)) ega_nil))))) ⟨m, n, st, ws, mk, x, p, rd x, wf x, rfl, hm0, by omega, by omega, by have := hc.wlen; omega, hwin, hxV, hpl, by omega, rfl⟩) fun vp H5 e5 hvp => ?_
      refine g_tupU2 (K := K) hvp fun x13 x14 ⟨a13, e13, hb13⟩ hx14 => ?_
      subst e13
      dsimp only
      have fr5 := fr4.gex e5
      have hd5 := e5 d _ hd4
      have ht5 := ht4.up (hide_ex e5)
      have hxv5 := Dp.mono hxv (hide_ex (M := d :: M) e5)
      have hb13' := hide_sub _ _ _ _ hb13
      have hkl : kvs.length ≤ 256 := by
        have e1 : kvs.length = keys.length := by simpa using congrArg List.length ht5.key
        have := ht5.len
        have e2 := hc.llen
        rw [List.length_take] at this
        omega
      have hprev := ht5.prev (rd x)
      have hfl : ((lot.take i).filter fun y => rd y = rd x).length ≤ 256 := by
        have a1 := List.length_filter_le (fun y => decide (rd y = rd x)) (lot.take i)
        have e2 := hc.llen
        rw [List.length_take] at a1
        omega
      have hti : lot.take (i + 1) = lot.take i ++ [x] := by rw [List.take_add_one, hi]; rfl
      refine s_dputV (T := dat K (dBranch (rd x) (wf x) (((lot.take i).filter fun y => rd y = rd x) ++ [x]))) fr5.ok ((ed_tup (K := K) (ds := [dV (rd x), dWins (wf x), .list ((((lot.take i).filter fun y => rd y = rd x).map dV) ++ [dV x])]) (by simp) (ea_cons (ed_var rfl (tyVP_d ⟨a13, rfl, hb13⟩)) (ea_cons (ed_var (d := dWins (wf x)) rfl hx14) (ea_one (ed_catD (by simp; omega) ?_ (ed_lst (by simp) (ea_one (ed_var rfl hxv5)))))))).to (by rw [dBranch, dL, List.map_append]; rfl)).eg rfl hd5 rfl hb13' (by omega) fun v H6 e6 hv => ?_
      · have h0 : ED K (d :: M) (tTup (tCons (tTup tNil) (tCons (tLst tNil) (tCons (tLst tNil) tNil)))) [some v1, some v2, some v3, some v4, some (.int (m : Int)), some x5, some x6, some (.int (mk : Int)), some x8, some x9, some x10, some (.ref d), some xv, some (.ref a13), some x14, none, none, none, none] H5 (.tuple [.tuple [], .list [], .list []]) := ed_tup (by simp) (ea_cons (ed_tup (by simp) ea_nil) (ea_cons (ed_lst (by simp) ea_nil) (ea_one (ed_lst (by simp) ea_nil))))
        cases ho : valV kvs (encK (rd x)) with
        | none =>
          have := hprev.1 ho
          rw [this]
          exact ed_ixT (ds := [.tuple [], .list [], .list []]) rfl (ed_dget2T (dd := .tuple [.tuple [], .list [], .list []]) rfl hd5 rfl hb13' h0 (fun _ => rfl) fun v z => by rw [ho] at z; cases z) ed_int
        | some v =>
          obtain ⟨y, _, _, hvy⟩ := hprev.2 v ho
          exact ed_ixT (ds := [dV (rd x), dWins (wf y), dL ((lot.take i).filter fun y => rd y = rd x)]) rfl (ed_dget2T (dd := dBranch (rd x) (wf y) ((lot.take i).filter fun y => rd y = rd x)) rfl hd5 rfl hb13' h0 (fun z => by rw [ho] at z; cases z) fun u z => by
            rw [ho] at z
            injection z with z
            rw [← z]
            exact hvy) ed_int
      · have fr6 := (fr5.gex e6).upd (a := d) (o := .dT (putK kvs (encK (rd x)) v)) (by simp) (.inl (by simp))
        refine ⟨_, _, _, _, addK keys (rd x), rfl, fr6, upd_same, ?_⟩
        rw [hti]
        refine ht5.put (by rw [hide_upd (by simp)]; exact hide_ex e6) (fun y hy z => ?_) (by rw [hide_upd (by simp)]; exact hv)
        have hpy := hplay y (hlv y (List.mem_of_mem_take hy))
        rw [z] at hpy
        exact hpy.walk hpl
    · rintro HH σ' H' e ⟨y12, y13, y14, kvs, keys, rfl, fr, hd, ht⟩
      dsimp only
      rw [List.take_length] at ht
      have fr3 : Fr [d] (d :: M) H3 (d :: M) H' := (Fr.ofEx f3.ok e).trans fr fun _ h => .inl h
      have frA : Fr [] M H (d :: M) H' := f3.trans fr3 fun a ha => .inr (by rw [List.mem_singleton.mp ha]; exact hdH)
      have frB := frA.back (fun a ha => by simp [ha])
      have exA : Ex (hide (d :: M) H3) (hide M H') := fr3.vis.trans (hide_less fun a ha => by simp [ha])
      have h3A := Dp.mono h33 exA
      have hsho := plan_shown hc.win hp hwid
      refine s_parG (T1 := tS K (dPlan p).shown) (T2 := tyNew H' (tyEx (fun res : List WM.Leaf => WM.Leaves ws m n L b p mk res ∧ res.length ≤ wid p) (fun res => tyLN (res.map (tyLeaf K m n))))) frB.ok (ega_d (ed_repr hsho (Nat.le_refl _) (by omega) (plan_disp p) (ed_var rfl h3A)) (ega_cons (eg_callF (R := R_leaves K) (ega_cons (eg_var (T := tyCab K m n st ws) rfl ((tyCab K m n st ws).up exA hx63)) (ega_d (ed_varI (K := K) rfl) (ega_cons (eg_var (T := tyCoset K m n L b) rfl ((tyCoset K m n L b).up exA hx83)) (ega_cons (eg_var (T := dat K (dPlan p)) rfl h3A) ega_nil)))) ⟨m, n, st, ws, mk, L, b, p, rfl, by omega, by omega, hn, by omega, hwin, hc.cos, hp, hwid, rfl⟩) ega_nil)) fun v15 v16 H4 e4 h15 ⟨⟨res, ⟨hres, hrl⟩, a, xs, ea, hax, hxs⟩, hnew⟩ => ?_
      cases dp_str h15
      subst ea
      dsimp only
      have haH : H a = none := by
        obtain ⟨a2, e2, h2⟩ := hnew
        cases e2
        exact none_of frA.out h2
      have hax' := hide_sub _ _ _ _ hax
      have hfound : (tyL K (res.map (tyLeaf K m n))).p (.ref a) (hide M H4) := ⟨a, xs, rfl, sq_of hax, hxs⟩
      have h34 := Dp.mono h3A (hide_ex (M := M) e4)
      have hd4 := e4 d _ hd
      have ht4 := ht.up (hide_ex (M := d :: M) e4)
      have exE : Ex (hide M H4) (hide [] H4) := hide_less (by simp)
      -- the keys are the leaves' readings
      have hkeys : keys.Perm (res.map (·.1)) := WM.perm_nd ht4.nd (WM.llt_nodup hres.srt) fun r => by
        rw [ht4.mem]
        constructor
        · rintro ⟨x, hx, rfl⟩
          obtain ⟨lf, hl, wk, hpl⟩ := hres.all x ((hc.all x).mp hx)
          refine List.mem_map.mpr ⟨lf, hl, ?_⟩
          exact (hpl.inj (hplay x (hlv x hx))).1
        · intro hr
          obtain ⟨lf, hl, rfl⟩ := List.mem_map.mp hr
          have hb := (hres.mem lf hl lf.2.2).mp (hres.cos lf hl).base
          obtain ⟨wk, hpl⟩ := hb.2
          exact ⟨lf.2.2, (hc.all _).mpr hb.1, ((hplay _ hb.1.1).inj hpl).1⟩
      have hklen : keys.length ≤ 10000 := by have := ht4.len; have := hc.llen; omega
      have hkne : 2 ≤ keys.length → ∀ k ∈ keys, k ≠ [] := fun h2 k hk e => by
        subst e
        obtain ⟨x, hx, hxr⟩ := (ht4.mem []).mp hk
        have hpx := hplay x (hlv x hx)
        rw [hxr] at hpx
        have := WM.nd_one ht4.nd fun r hr => by
          obtain ⟨y, hy, rfl⟩ := (ht4.mem r).mp hr
          exact WM.plays_nil hpx (hplay y (hlv y hy))
        omega
      refine sd_if (b := false) (M := []) (MOk.nil _) ((et_or (b := false) (c := false) ((et_test (ed_neS (K := K) (ed_repr hsho (Nat.le_refl _) (by omega) (plan_disp p) (ed_var rfl (h34.mono exE))) (ed_var rfl (.str _)))).to (by simp)) fun _ => et_or (b := false) (c := false) ((et_not (b := true) (et_B ((eg_call (T := tB K true) (R := R_law_are_leaves K) (ega_cons (eg_var rfl ((tyL K (res.map (tyLeaf K m n))).up exE hfound)) ega_nil) ⟨m, n, res, rfl, by omega, rfl⟩).ed))).to rfl) fun _ => (et_test (ed_neD (K := K) (d1 := dL (res.map (·.1))) (d2 := dL (res.map (·.1))) (shaped_dL _) (shaped_dL _) ((ed_lcA (K := K) (src := res) (ty := tyLeaf K m n) (ei_l (eg_var rfl ((tyL K (res.map (tyLeaf K m n))).up exE hfound))) (by omega) (fun lf => dV lf.1) fun M' H' x lf i ex hM' hi hx => turn_name rfl et_yes fun _ => eg_ixU (K := K) (Ts := [tV K lf.1, tyCoset K m n lf.2.1 lf.2.2]) rfl (eg_var rfl hx) ed_int).to (by rw [dL, List.map_map]; rfl)) ((eg_sortedT (K := K) (M := []) (ks := keys) (fun a ha => by cases ha) (MOk.nil _) rfl hd4 ht4.key hklen hkne).wk (U := dat K (dL (res.map (·.1)))) fun v H' ⟨l, ⟨hl1, hl2⟩, hv⟩ => by
          rw [← WM.sorted_uniq hres.srt (hl1.trans hkeys) hl2]
          exact hv).ed)).to ?_).to rfl) (fun z => by cases z) fun _ H5 e5 => ?_
      · have : PyData.eqv (dL (res.map (·.1))) (dL (res.map (·.1))) = true := by
          have : ∀ l : List (List Int), PyData.eqvAll (l.map dV) (l.map dV) = true := fun l => by
            induction l with
            | nil => simp [PyData.eqvAll]
            | cons x l ih => rw [List.map_cons]; simp only [PyData.eqvAll]; rw [ih, eqv_dV]; simp
          unfold PyData.eqv
          exact this _
        rw [this]
        rfl
      dsimp only [tNext]
      have e45 := e4.trans e5
      have frC := frB.gex e45
      have exC := hide_ex (M := M) e5
      have hd5 := e5 d _ hd4
      have ht5 := ht4.up (hide_ex (M := d :: M) e5)
      have hfound5 := (tyL K (res.map (tyLeaf K m n))).up exC hfound
      have h4A := (Dp.mono h43 exA).mono (hide_ex (M := M) e45)
      have hx10A := (Dp.mono hx103 exA).mono (hide_ex (M := M) e45)
      have hdv : hide M H5 d = some (.dT kvs) := by rw [hide_out hdM]; exact hd5
      refine sd_set (K := K) (d := .bool true) frC.ok ((ed_allB (l := res) (f := fun _ => true) (ed_lcA (K := K) (src := res) (ty := tyLeaf K m n) (ei_l (eg_var rfl hfound5)) (by omega) (fun _ => .bool true) fun M' H6 x lf i ex hM' hi hx => turn_name rfl et_yes fun _ => ?_)).bool (by simp)) fun v18 H6 e6 h18 => ?_
      · have hl := List.mem_of_getElem? hi
        have hcb := hres.cos lf hl
        have hb := (hres.mem lf hl lf.2.2).mp hcb.base
        have hblot := (hc.all _).mpr hb.1
        obtain ⟨wk0, hpl0⟩ := hb.2
        have hpb := hplay lf.2.2 hb.1.1
        have hrd : rd lf.2.2 = lf.1 := (hpb.inj hpl0).1
        obtain ⟨v, hv1, hv2⟩ := ht5.val lf.2.2 hblot
        rw [hrd] at hv1 hv2 hpb
        have hd6 : H6 d = some (.dT kvs) := hide_sub _ _ _ _ (ex _ _ hdv)
        have hv3 : Dp K (hide M' H6) v (dBranch lf.1 (wf lf.2.2) (lot.filter fun y => rd y = lf.1)) := (hv2.mono (hide_less fun a ha => by simp [ha])).mono ex
        have hrng := WM.plays_rng hwin hpb
        refine eg_call (R := R_law_leaf_right K) (ega_d (ed_varI (K := K) rfl) (ega_d (ed_var (K := K) (d := dV wt) rfl (h4A.mono ex)) (ega_d (ed_var (K := K) (d := dL ks) rfl (hx10A.mono ex)) (ega_d (ed_dgetST (k := lf.1) rfl hd6 (eg_ixU (K := K) (Ts := [tV K lf.1, tyCoset K m n lf.2.1 lf.2.2]) rfl (eg_var rfl hx) ed_int).ed hv1 hv3) (ega_cons (eg_var (T := tyLeaf K m n lf) rfl hx) ega_nil))))) ⟨m, n, st, ws, vs, L, b, p, mk, lf, wf lf.2.2, lot.filter fun y => rd y = lf.1, ks, wt, rfl, hm, hm2, hn, hn2, ⟨⟨hcb, hres.mem lf hl, hc.span, hc.srt.filter _, fun x => ?_, fun x hx => ?_⟩, hwin, hrng.2, hc.mems, hwt, fun a ha => ?_, ?_, ?_, by have := hc.klen; omega⟩, rfl⟩
        · rw [List.mem_filter, hc.all]
          constructor
          · rintro ⟨h1, h2⟩
            exact ⟨h1, (WM.rd_iff (hplay x h1.1)).mp (by simpa using h2)⟩
          · rintro ⟨h1, h2⟩
            exact ⟨h1, by simpa using (WM.rd_iff (hplay x h1.1)).mpr h2⟩
        · rw [List.mem_filter] at hx
          have hxp := hplay x (hlv x hx.1)
          have : rd x = lf.1 := by simpa using hx.2
          rw [this] at hxp
          rw [← hxp.walk hpb]
          exact hxp
        · have := hrng.1 a ha
          omega
        · have := WM.plays_short hp hpb
          omega
        · have a1 := List.length_filter_le (fun y => decide (rd y = lf.1)) lot
          have := hc.llen
          omega
      dsimp only
      have hax6 : H6 a = some (.lst xs) := (e5.trans e6) a _ hax'
      have frD := frC.gex e6
      refine s_append frD.ok hax6 rfl (ed_int (K := K) (i := 5)).eg (by rw [hxs.len, List.length_map]; omega) fun v5 H7 e7 _ => ?_
      dsimp only
      have exF : Ex H (upd H7 a (.lst (xs ++ [v5]))) := fun b o hb => by
        rw [upd_ne (ne_of_none hb haH)]
        exact (frD.out.trans e7) b o hb
      cases dp_bl h18
      refine sd_ret (K := K) (d := .bool true) (hM.ex exF) (ed_var rfl (.bl true)) fun v H8 e8 h => hq v H8 (exF.trans e8) h)
end
end WL
end
section
set_option Elab.async false
set_option linter.all false
set_option maxRecDepth 100000
set_option maxHeartbeats 4000000
/-! D32: _law_small_right. -/
namespace WL
open PySem PySem.Spec PyProof.Rows L2 Evl HeadW
section
variable {K : PySem.W.Frag} {b c : Addr} {M : List Addr} {σ : L2.St} {H H' : Hp} {te ta tb tx tv : TE} {T T1 T2 : Ty} {Ts : List Ty} {D : Ends} {i j : Nat}
theorem eb_callBM {t : TA} {R : List Ty → Ty → Prop} {E : XK} (hN : NT M H) (hM0 : MOk M H) (hb : b ∈ M) (hi : σ[i]? = some (some (.ref b))) (h : EBA b c M t σ H Ts) (r : R Ts T) : EB b c M (tCall (SpBM R) [] E (tCons (tVar i) t)) σ H T := fun H1 f B Q q =>
  ⟨_, hi, h H1 f B _ fun vs H2 f2 B2 hvs => ⟨M, b, c, vs, Ts, T, f2.ok, hN.bag hM0 (f.comp f2) B2, hb, B2, by simp, hvs, r, fun v H3 f3 B3 hv => q v H3 (f2.comp f3) B3 hv⟩⟩
theorem s_parB {ta : TA} (hM : MOk M H) (B : BagOk H b c) (h : EBA b c M ta σ H [T1, T2]) (k : ∀ v w H1, Fr [b] M H M H1 → BagOk H1 b c → T1.p v (hide M H1) → T2.p w (hide M H1) → D.nx ((σ.set i (some v)).set j (some w)) H1) : tPar i j ta D σ H :=
  h H (Fr.refl1 hM) B _ fun vs H1 f B1 h1 => by
    obtain ⟨v, w, rfl, a, b⟩ := allT2 h1
    exact ⟨v, w, rfl, k v w H1 f B1 a b⟩
end
/-- one case: what spans, the table, the base, the positions, the members -/
structure CaseD where
  vs : List (List Int)
  L : WM.Pv
  b : List Int
  lot : List (List Int)
  ks : List (List Int)
abbrev CaseD.ty (K : PySem.W.Frag) (m n : Nat) (q : CaseD) : Ty := tyCase K m n q.L q.b q.lot q.ks
abbrev CaseD.Ok (m n st : Nat) (ws : List W) (q : CaseD) : Prop := CaseOk m n st ws q.vs q.L q.b q.lot q.ks
theorem case_ok {m n st most : Nat} {ws : List W} {vs : List (List Int)} {bs : List Int} {lot ks : List (List Int)} {L : WM.Pv} {v : List Int} (hm : (0 : Int) < m) (hmn : m ^ n ≤ 256) (hw : WinsOk m n st most ws) (hmo : most ≤ 20) (hl : CosL m n vs bs lot) (hv : v ∈ lot) (ht : WM.Tab m n L) (hs : ∀ f, WM.In m (WM.Gen L) f ↔ WM.In m (GenL vs) f) (hk : MemsOk m n vs ks) : CaseOk m n st ws vs L (WM.red m L v) lot ks := by
  have hvV := (hl.mem v).mp hv
  refine ⟨by have := hw.1; omega, hw.2.1, WM.Cos.of hm ht hvV.1, hs, hl.srt, fun x => ?_, by have := hl.len; omega, hk.1, ?_⟩
  · rw [WM.mem_red hm ht hvV.1, hl.mem]
    unfold WM.Mem
    rw [hs]
    constructor
    · rintro ⟨h1, h2⟩
      exact ⟨h1, h2.sub hvV.2 fun i => ⟨0, by omega⟩⟩
    · rintro ⟨h1, h2⟩
      exact ⟨h1, h2.add hvV.2 fun i => ⟨0, by omega⟩⟩
  · have := WM.vec_count (m := m) hk.1.nd hk.1.vec
    omega
section
variable {w : World} {K : PySem.W.Frag} {mg : Str → Option Value} {base : Heap}
abbrev N_law_small_right : List Str := ["_law_bag_here", "_law_modulus", "_law_wheels", "_law_stops", "_law_windows_here", "_law_cabinet_here", "_law_vectors_here", "_law_cases", "_law_some", "_law_lot", "_law_step", "_law_start", "_law_plan_here", "_law_weights", "_law_coset_here", "_law_members_here"]
theorem sc_law_small_right : FnScope N_law_small_right ["_law_bag_here"] d_law_small_right.scope := ⟨rfl, rfl, rfl, by decide +kernel, rfl, by decide +kernel, by decide +kernel⟩
theorem bi_law_small_right (kV doc pm : Value) (an : Option Addr) (cdv ct : Value) (us : List Value) (hl : us.length = 1) : bindArgs (PySem.W.fnOf d_law_small_right.name d_law_small_right.qual d_law_small_right.params d_law_small_right.body d_law_small_right.scope .none kV doc pm an cdv ct) ⟨us, []⟩ = pure ((["_law_bag_here"] : List Str).zip us) := by
  match us, hl with
  | [_], _ => rfl

def R_law_small_right (K : PySem.W.Frag) (Ts : List Ty) (T : Ty) : Prop := Ts = [] ∧ T = tB K true
theorem calG_law_small_right (G : Glb w K mg base) : CalG PP w K mg base 16 "_law_small_right" (SpBM (R_law_small_right K)) :=
  calG_mk G 77 (d := d_law_small_right) rfl rfl G.g_law_small_right rfl (k := 15) sc_law_small_right (spBM_len fun Ts T ⟨h, _⟩ => by rw [h]; rfl) bi_law_small_right (fun f cdv A outer s H vs0 Q E hr hgd hsp => by
    obtain ⟨M, b, c, ws0, Ts, T, hM, hN, hbM, hB, rfl, hv, ⟨rfl, rfl⟩, hq⟩ := hsp
    cases hv
    refine ⟨_, (pss_cons (ps_asg (C8.pe_c (cal_law_cabinet G) hr (by decide) (by rfl) (pa_cons (pv 0) (pa_cons pe_int pa_nil))) (pg_tup rfl (pgs_cons (pg_name (i := 1) sc_law_small_right.nd rfl (by first | exact Or.inl rfl | exact Or.inr rfl)) (pgs_cons (pg_name (i := 2) sc_law_small_right.nd rfl (by first | exact Or.inl rfl | exact Or.inr rfl)) (pgs_cons (pg_name (i := 3) sc_law_small_right.nd rfl (by first | exact Or.inl rfl | exact Or.inr rfl)) (pgs_cons (pg_name (i := 4) sc_law_small_right.nd rfl (by first | exact Or.inl rfl | exact Or.inr rfl)) pgs_nil))))))
      (pss_cons (ps_set (i := 5) sc_law_small_right.nd rfl (by first | exact Or.inl rfl | exact Or.inr rfl) (pe_mkN (mak_Cabinet G) hr (by decide) (by rfl) (pa_cons (pv 1) (pa_cons (pv 2) (pa_cons (pe_callTy (T := "list") call_list_of (by rfl) G.f_list (by decide +kernel) (pa_cons (pv 4) pa_nil)) pa_nil))) (pk_cons (pv 3) pk_nil)))
      (pss_cons (ps_set (i := 6) sc_law_small_right.nd rfl (by first | exact Or.inl rfl | exact Or.inr rfl) (C8.pe_c (cal_law_unknown_span G) hr (by decide) (by rfl) (pa_cons (pv 0) (pa_cons (pv 1) (pa_cons (pv 2) pa_nil)))))
      (pss_cons (ps_set (i := 7) sc_law_small_right.nd rfl (by first | exact Or.inl rfl | exact Or.inr rfl) (pe_lst pa_nil))
      (pss_cons (ps_for PassesOwn.never rfl (pi_list (pe_lst (pa_cons (pv 6) (pa_cons (pe_slice sl_list (pv 6) po_none (po_some pe_int)) pa_nil)))) (pg_name (i := 8) sc_law_small_right.nd rfl (by first | exact Or.inl rfl | exact Or.inr rfl)) (pss_cons (ps_set (i := 9) sc_law_small_right.nd rfl (by first | exact Or.inl rfl | exact Or.inr rfl) (C8.pe_c (cal_law_coset G) hr (by decide) (by rfl) (pa_cons (pv 0) (pa_cons (pv 1) (pa_cons (pv 2) (pa_cons (pv 8) pa_nil))))))
      (pss_one (ps_expr (pe_bm PySem.F.plainAttrs_list PySem.F.slot_list_append PySem.F.type_list_append mt_append (pv 7) (pa_cons (pe_tup (pa_cons (C8.pe_mk (mak_Coset G) hr (by decide) (by rfl) (pa_cons (pe_ix ix_list (pv 9) (pe_un un_neg pe_int) (fun _ _ => rfl)) (pa_cons (C8.pe_mk (mak_Span G) hr (by decide) (by rfl) (pa_cons (pv 1) (pa_cons (pv 2) (pa_cons (pv 8) pa_nil)))) pa_nil))) (pa_cons (pv 9) (pa_cons (C8.pe_c (cal_law_members G) hr (by decide) (by rfl) (pa_cons (pv 1) (pa_cons (pv 2) (pa_cons (pv 8) pa_nil)))) pa_nil)))) pa_nil))))))
      (pss_cons (ps_for PassesOwn.never rfl (pi_range1 (by rfl) G.f_range (pa_cons (pe_ix ix_list (pe_lst (pa_cons pe_int (pa_cons pe_int pa_nil))) (pe_callTy (T := "int") call_int1 (by rfl) G.f_int (by decide +kernel) (pa_cons (pe_cmpR op_gt (pe_callB (id := "len") call_len (by rfl) G.f_len (by decide +kernel) (pa_cons (pe_ix ix_tup (pe_ix ix_list (pv 7) pe_int (fun _ _ => rfl)) pe_int (fun _ _ => rfl)) pa_nil)) pe_int (nomark _)) pa_nil)) (fun _ _ => rfl)) pa_nil)) (pg_name (i := 10) sc_law_small_right.nd rfl (by first | exact Or.inl rfl | exact Or.inr rfl)) (pss_cons (ps_set (i := 11) sc_law_small_right.nd rfl (by first | exact Or.inl rfl | exact Or.inr rfl) (C8.pe_c (cal_law_take G) hr (by decide) (by rfl) (pa_cons (pv 0) (pa_cons (pv 3) pa_nil))))
      (pss_cons (ps_par (i := 12) (j := 13) (by rfl) sc_law_small_right.nd rfl rfl (by decide) rfl rfl (pa_cons (C8.pe_c (cal_law_plan G 4) hr (by decide) (by rfl) (pa_cons (pv 0) (pa_cons (pv 4) (pa_cons (pv 11) (pa_cons pe_int (pa_cons pe_int pa_nil)))))) (pa_cons (C8.pe_c (cal_law_vector G) hr (by decide) (by rfl) (pa_cons (pv 0) (pa_cons (pv 1) (pa_cons (pv 2) pa_nil)))) pa_nil)) (by rfl))
      (pss_one (ps_for PassesOwn.never rfl (pi_list (pe_op op_catS (pv 7) (pe_slice sl_list (pv 7) po_none (po_some pe_int)))) (pg_tup rfl (pgs_cons (pg_name (i := 14) sc_law_small_right.nd rfl (by first | exact Or.inl rfl | exact Or.inr rfl)) (pgs_cons (pg_name (i := 9) sc_law_small_right.nd rfl (by first | exact Or.inl rfl | exact Or.inr rfl)) (pgs_cons (pg_name (i := 15) sc_law_small_right.nd rfl (by first | exact Or.inl rfl | exact Or.inr rfl)) pgs_nil)))) (pss_cons (ps_if (pt_not (pt_val (C8.pe_c (cal_law_is_refused G) hr (by decide) (by rfl) (pa_cons (pv 5) (pa_cons (pv 11) (pa_cons (pv 14) pa_nil)))))) (pss_one (ps_ret pe_bl)) pss_nil)
      (pss_one (ps_if (pt_not (pt_val (pe_cG (calG_law_leaves_right G) hr hgd (by decide) (by rfl) (pa_cons (pe_tup (pa_cons (pv 1) (pa_cons (pv 4) (pa_cons (pv 5) (pa_cons (pv 11) pa_nil))))) (pa_cons (pe_tup (pa_cons (pv 14) (pa_cons (pv 9) (pa_cons (pv 15) pa_nil)))) (pa_cons (pv 12) (pa_cons (pv 13) pa_nil))))))) (pss_one (ps_ret pe_bl)) pss_nil))))))))
      (pss_one (ps_ret (pe_callB (id := "all") (cr_all rfl) (by rfl) G.f_all (by decide +kernel) (pa_cons (pe_lc (own := [("_law_lot", 9), ("_law_coset_here", 14), ("_law_members_here", 15)]) (g := (gTup _ 3 (gCons (gName 14) (gCons (gName 9) (gCons (gName 15) gNil))))) (tt := tYes) rfl sc_law_small_right.nd (pi_list (pv 7)) (blkOk_by (N := N_law_small_right) (sc := d_law_small_right.scope) (by decide +kernel)) (fun _ _ _ _ _ => (pg_tup rfl (pgs_cons (pg_name (i := 14) sc_law_small_right.nd rfl (by first | exact Or.inl rfl | exact Or.inr rfl)) (pgs_cons (pg_name (i := 9) sc_law_small_right.nd rfl (by first | exact Or.inl rfl | exact Or.inr rfl)) (pgs_cons (pg_name (i := 15) sc_law_small_right.nd rfl (by first | exact Or.inl rfl | exact Or.inr rfl)) pgs_nil))))) (fun _ _ _ _ _ => pts_nil) (fun _ _ _ _ _ => (pe_cG (calG_law_alike G) hr hgd (by decide) (by rfl) (pa_cons (pe_lst (pa_cons (C8.pe_mt0 (met_Coset_base G) hr (by decide) (pv 14)) (pa_cons (C8.pe_mt0 (met_Coset_size G) hr (by decide) (pv 14)) pa_nil))) (pa_cons (pe_lst (pa_cons (pe_ix (ix_listK (K := K) rfl) (pv 9) pe_int (fun _ _ => rfl)) (pa_cons (pe_callB (id := "len") (call_lenK (K := K) rfl) (by rfl) G.f_len (by decide +kernel) (pa_cons (pv 9) pa_nil)) pa_nil))) pa_nil))))) pa_nil)))))))))), ?_⟩
    refine sb_bind hM hB (eb_call (R := R_law_cabinet K) hbM rfl (eb_one eb_int) ⟨4, rfl, by omega, rfl⟩) fun vc H1 f1 B1 ⟨⟨m, n, st, ws⟩, ⟨hsm, hst1, hst2, hws⟩, hvc⟩ => ?_
    refine g_tup4 (K := K) hvc fun x1 x2 x3 x4 h1 h2 h3 h4 => ?_
    cases dp_int h1
    cases dp_int h2
    cases dp_int h3
    dsimp only at hsm hst1 hst2 hws h4 ⊢
    have h4 : Dp K (hide M H1) x4 (dWins ws) := h4
    obtain ⟨hm, hm2, hn, hn2, hmn⟩ := hsm
    have hm0 : (0 : Int) < m := by omega
    have hwl := hws.1
    refine sg_set f1.ok (eg_makeK (R := R_Cabinet_init K) (P := IsCab K m n st ws) (ega_d (ed_varI (K := K) rfl) (ega_d (ed_varI (K := K) rfl) (ega_d (ed_listOf (ed_var (K := K) rfl h4)) ega_nil))) (ega_d (ed_varI (K := K) rfl) ega_nil) rfl rfl ⟨m, n, st, ws, rfl, by omega, by omega, hn, hn2, hst1, hst2, by omega, hws.2.1, hws.2.2, rfl⟩) fun v5 H2 e2 ⟨fs, hfs, h5⟩ => ?_
    have hfs : fs = fsCab K m n st ws := hfs
    subst hfs
    have h5 : (tyCab K m n st ws).p v5 (hide M H2) := h5
    dsimp only
    have f2 := f1.gex e2
    have B2 := B1.up e2
    have h42 := h4.mono (hide_ex (M := M) e2)
    refine sb_set f2.ok B2 (eb_call (T := tyEx (VecsOk m n 6) (fun vs => dat K (dL vs))) (R := R_law_unknown_span K) hbM rfl (eba_cons (eb_varI rfl) (eb_one (eb_varI rfl))) ⟨m, n, rfl, hm, hm2, hn2, rfl⟩) fun v6 H3 f3 B3 ⟨vs, ⟨hvl, hvv⟩, h6⟩ => ?_
    dsimp only
    have h43 := h42.mono f3.vis
    have h53 := (tyCab K m n st ws).up f3.vis h5
    have f13 := f2.comp f3
    have hN3 := hN.bag hM f13 B3
    -- the cases
    refine s_new0 fun p hp0 => ?_
    dsimp only
    have hpb := (B3.fresh hp0)
    have hpM : p ∉ M := f3.ok.new hp0
    have hpH : H p = none := by
      cases q : H p with
      | none => rfl
      | some o =>
        by_cases z : p = b
        · exact absurd (z ▸ hbM) hpM
        · rw [f13.keep p o (by simpa using z) q] at hp0; cases hp0
    have f4 : Fr [b] M H (p :: M) (upd H3 p (.lst [])) := f13.new hp0
    have B4 : BagOk (upd H3 p (.lst [])) b c := B3.upd hpb.1 hpb.2
    have p4 : (upd H3 p (.lst [])) p = some (.lst []) := upd_same
    have up4 : Ex (hide M H3) (hide (p :: M) (upd H3 p (.lst []))) := (hide_cons hp0).trans (hide_ex (Ex.new hp0))
    have h44 := h43.mono up4
    have h54 := (tyCab K m n st ws).up up4 h53
    have h64 := Dp.mono h6 up4
    have hN4 : NT (p :: M) (upd H3 p (.lst [])) := fun a ha xs e => by
      rcases List.mem_cons.mp ha with z | z
      · rw [z, p4] at e; cases e
      · rw [upd_ne (show a ≠ p from fun q => hpM (by rw [← q]; exact z))] at e
        exact hN3 a z xs e
    have hbM4 : b ∈ p :: M := by simp [hbM]
    generalize upd H3 p (.lst []) = H4 at f4 B4 p4 h44 h54 h64 hN4
    refine s_for f4.ok (ei_l (K := K) (src := [vs, vs.take 1]) (ty := fun us => dat K (dL us)) (eg_lst (by simp) (ega_d (ed_var (K := K) rfl h64) (ega_one (EG.wk (T := tyL K (((vs.map dV).map (dat K)).take 1)) (U := dat K (dL (vs.take 1))) ((eg_slL (EG.l (ed_var (K := K) rfl h64)) (fun _ _ => eo_none) (fun H1 e1 => eo_some (K := K) (f4.ok.ex e1) ed_int)).to (by rw [show (1 : Int) = ((1 : Nat) : Int) from rfl, cutT_up])) fun v H' h => tyL_dp (by rw [← List.map_take, ← List.map_take] at h; exact h)))))) (p :: M)
      (fun HH i σ' H' => ∃ y8 y9 xs cs, σ' = [some (.ref b), some (.int (m : Int)), some (.int (n : Int)), some (.int (st : Int)), some x4, some v5, some v6, some (.ref p), y8, y9, none, none, none, none, none, none] ∧ Fr [p, b] (p :: M) HH (p :: M) H' ∧ BagOk H' b c ∧ NT (p :: M) H' ∧ H' p = some (.lst xs) ∧ AllT (hide (p :: M) H') xs (cs.map (CaseD.ty K m n)) ∧ cs.length = i ∧ ∀ q ∈ cs, CaseD.Ok m n st ws q)
      (fun HH i σ' H' e ⟨_, _, _, _, _, fr, _⟩ => ⟨fr.vis, fr.ok⟩) (fun HH e => ⟨_, _, [], [], rfl, Fr.refl1 (f4.ok.ex e), B4.up e, hN4.keep f4.ok fun a _ o q => e a o q, e p _ p4, .nil, rfl, fun _ h => nomatch h⟩) ?_ ?_
    · rintro HH i us xv σ' H' H5 e hi ⟨y8, y9, xs, cs, rfl, fr, B5, hN5, hp5, hxs, hcl, hcs⟩ e5 hxv
      dsimp only
      have hus : ∀ v ∈ us, WM.Vec m n v := by
        have hmem := List.mem_of_getElem? hi
        simp only [List.mem_cons, List.not_mem_nil, or_false] at hmem
        rcases hmem with z | z
        · rw [z]; exact hvv
        · rw [z]; exact fun v hv => hvv v (List.mem_of_mem_take hv)
      have husl : us.length ≤ 6 := by
        have hmem := List.mem_of_getElem? hi
        simp only [List.mem_cons, List.not_mem_nil, or_false] at hmem
        rcases hmem with z | z
        · rw [z]; exact hvl
        · rw [z, List.length_take]; omega
      have hi2 : i < 2 := (List.getElem?_eq_some_iff.mp hi).1
      have fr5 := fr.gex e5
      have B6 := B5.up e5
      have hN6 : NT (p :: M) H5 := hN5.keep fr.ok fun a _ o q => e5 a o q
      refine sb_set fr5.ok B6 (eb_callBM (R := R_law_coset K) hN6 fr5.ok hbM4 rfl (eba_cons (eb_varI rfl) (eba_cons (eb_varI rfl) (eb_one (eb_var (T := dat K (dL us)) rfl hxv)))) ⟨m, n, us, rfl, hm, hm2, hn, hn2, hmn, hus, rfl⟩) fun v9 H6 f6 B7 ⟨⟨bs, lot⟩, hlot, h9⟩ => ?_
      dsimp only at hlot h9 ⊢
      have hxv6 := Dp.mono hxv f6.vis
      have hN7 := hN6.bag fr5.ok f6 B7
      have hp7 : H6 p = some (.lst xs) := f6.keep p _ (by simpa using hpb.1) (e5 p _ hp5)
      obtain ⟨vl, hvl2⟩ : ∃ v, lot.getLast? = some v := by
        cases q : lot.getLast? with
        | none => exact absurd (List.getLast?_eq_none_iff.mp q) hlot.ne
        | some v => exact ⟨v, rfl⟩
      have hvmem : vl ∈ lot := List.mem_of_getLast? hvl2
      have hvV := ((hlot.mem vl).mp hvmem).1
      refine s_append f6.ok hp7 rfl (eg_tup (K := K) (Ts := [tyEx (IsCos K m n vl fun TL => ∀ f, WM.In m (WM.Gen TL) f ↔ WM.In m (GenL us) f) (tyO (cCoset K)), dat K (dL lot), tyEx (MemsOk m n us) (fun ks => dat K (dL ks))]) (by simp) (ega_cons (eg_make (R := R_Coset_init K) (ega_d (ed_ixL (K := K) (ds := lot.map dV) (d := dV vl) (i := -1) (atI_last (by rw [List.getLast?_map, hvl2]; rfl)) (ed_var (K := K) (d := dL lot) rfl h9) (ed_neg ed_int)) (ega_cons (eg_make (R := R_Span_init K) (P := IsSpan K m n (GenL us)) (ega_d (ed_varI (K := K) rfl) (ega_d (ed_varI (K := K) rfl) (ega_d (ed_var (K := K) (d := dL us) rfl hxv6) ega_nil))) ⟨us, n, m, rfl, by omega, by omega, hn, by omega, by omega, hus, rfl⟩) ega_nil)) ⟨m, n, vl, _, IsSpan K m n (GenL us), rfl, fun fs ⟨TL, ⟨a1, a2⟩, a3⟩ => ⟨TL, a1, a2, a3⟩, by omega, by omega, by omega, hvV, rfl⟩) (ega_d (ed_var (K := K) (d := dL lot) rfl h9) (ega_one (eg_callM (R := R_law_members K) hN7 f6.ok (ega_d (ed_varI (K := K) rfl) (ega_d (ed_varI (K := K) rfl) (ega_d (ed_var (K := K) (d := dL us) rfl hxv6) ega_nil))) ⟨m, n, us, rfl, hm, hm2, hn, hn2, hmn, hus, rfl⟩))))) (by rw [hxs.len, List.length_map]; omega) fun vt H7 e7 ⟨a, zs, ea, hsq, hzs⟩ => ?_
      obtain ⟨z1, z2, z3, rfl, ⟨fs, ⟨TL, hT, hTs, rfl⟩, hz1⟩, hz2, ⟨ks, hks, hz3⟩⟩ := allT3 hzs
      subst ea
      dsimp only
      have hcase := case_ok (most := 4) hm0 hmn hws (by omega) hlot hvmem hT hTs hks
      have frX := ((fr5.trans (f6.weak (B' := [p, b]) (by simp)) fun _ h => .inl h).gex e7).upd (a := p) (o := .lst (xs ++ [.ref a])) (by simp) (.inl (by simp))
      refine ⟨_, _, _, cs ++ [⟨us, TL, WM.red m TL vl, lot, ks⟩], rfl, frX, (B7.up e7).upd hpb.1 hpb.2, fun a2 ha2 xs2 e2 => ?_, upd_same, ?_, by simp [hcl], fun q hq => ?_⟩
      · by_cases z : a2 = p
        · rw [z, upd_same] at e2; cases e2
        · rw [upd_ne z] at e2
          exact hN7.keep f6.ok (fun a _ o q => e7 a o q) a2 ha2 xs2 e2
      · rw [hide_upd (by simp), List.map_append]
        exact (((hxs.up (hide_ex e5)).up f6.vis).up (hide_ex e7)).app (.cons ⟨a, _, rfl, hsq, .cons hz1 (.cons hz2 (.cons hz3 .nil))⟩ .nil)
      · rcases List.mem_append.mp hq with z | z
        · exact hcs q z
        · rw [List.mem_singleton.mp z]; exact hcase
    · rintro HH σ' H' e ⟨y8, y9, xs, cs, rfl, fr, B5, hN5, hp5, hxs, hcl, hcs⟩
      dsimp only at hcl ⊢
      have hcl : cs.length = 2 := hcl
      have frA : Fr [b] M H (p :: M) H' := f4.trans ((Fr.ofEx f4.ok e).trans fr fun _ h => .inl h) fun a ha => by
        simp at ha
        rcases ha with z | z
        · rw [z]; exact .inr hpH
        · rw [z]; exact .inl (by simp)
      have frB := frA.back (fun a ha => by simp [ha])
      have exB : Ex (hide (p :: M) H4) (hide M H') := ((hide_ex e).trans fr.vis).trans (hide_less fun a ha => by simp [ha])
      have hcases : (tyL K (cs.map (CaseD.ty K m n))).p (.ref p) (hide M H') := ⟨p, xs, rfl, sq_of (by rw [hide_out hpM]; exact hp5), hxs.up (hide_less fun a ha => by simp [ha])⟩
      have h4A := h44.mono exB
      have h5A := (tyCab K m n st ws).up exB h54
      have hcs1 : (cs.map (CaseD.ty K m n)).length = 2 := by rw [List.length_map, hcl]
      -- how often
      obtain ⟨q0, q1, rfl⟩ : ∃ q0 q1, cs = [q0, q1] := by
        match cs, hcl with
        | [a, b], _ => exact ⟨a, b, rfl⟩
      obtain ⟨nr, hnr, hnr2⟩ : ∃ nr : Nat, (if decide ((q0.lot.length : Int) > 64) = true then [PyData.int 2, .int 1][1]? else [PyData.int 2, .int 1][0]?) = some (.int nr) ∧ nr ≤ 2 := by
        by_cases z : (q0.lot.length : Int) > 64
        · exact ⟨1, by simp [z], by omega⟩
        · exact ⟨2, by simp [z], by omega⟩
      refine s_for frB.ok (ei_r1 (K := K) (n := nr) (by omega) (ea_one (ed_ixL (K := K) (ds := [.int 2, .int 1]) (i := if decide ((q0.lot.length : Int) > 64) = true then 1 else 0) ?_ (ed_lst (by simp) (ea_cons ed_int (ea_one ed_int))) (ed_intB (ed_cmp (K := K) (p := fun i j => decide (i > j)) ((ed_len (ds := q0.lot.map dV) (eg_ixU (K := K) (Ts := [tyCoset K m n q0.L q0.b, dat K (dL q0.lot), dat K (dL q0.ks)]) rfl (eg_ixL (K := K) (Ts := [CaseD.ty K m n q0, CaseD.ty K m n q1]) (T := CaseD.ty K m n q0) (i := 0) rfl (eg_var rfl hcases) ed_int) ed_int).ed).to (by rw [List.length_map])) ed_int))))) M
        (fun HH i σ' H' => ∃ y9 y10 y11 y12 y13 y14 y15, σ' = [some (.ref b), some (.int (m : Int)), some (.int (n : Int)), some (.int (st : Int)), some x4, some v5, some v6, some (.ref p), y8, y9, y10, y11, y12, y13, y14, y15] ∧ Fr [b] M HH M H' ∧ BagOk H' b c)
        (fun HH i σ' H' e ⟨_, _, _, _, _, _, _, _, fr, _⟩ => ⟨fr.vis, fr.ok⟩) (fun HH e => ⟨_, _, _, _, _, _, _, rfl, Fr.refl1 (frB.ok.ex e), B5.up e⟩) ?_ ?_
      · by_cases z : (q0.lot.length : Int) > 64
        · rw [decide_eq_true z] at hnr ⊢
          simp at hnr
          rw [← hnr]
          rfl
        · rw [decide_eq_false z] at hnr ⊢
          simp at hnr
          rw [← hnr]
          rfl
      · rintro HH i a x σ' H' H8 e hi ⟨y9, y10, y11, y12, y13, y14, y15, rfl, fr, B6⟩ e8 hx
        dsimp only
        have fr8 := fr.gex e8
        have B8 := B6.up e8
        have frS : Fr [b] M _ M H8 := (Fr.ofEx frB.ok e).comp fr8
        refine sb_set fr8.ok B8 (eb_call (T := tIn K 0 st) (R := R_law_take K) hbM rfl (eb_one (eb_varI rfl)) ⟨st, rfl, by omega, by omega, rfl⟩) fun v11 H9 f9 B9 ⟨mk, hmk, h11⟩ => ?_
        cases dp_int h11
        obtain ⟨mk, rfl⟩ : ∃ y : Nat, mk = (y : Int) := ⟨mk.toNat, by omega⟩
        dsimp only
        have frS9 := frS.comp f9
        refine s_parB f9.ok B9 (eba_cons (eb_call (T := tyEx (fun p : Pl => WM.PlanOk ws p mk 3 ∧ wid p ≤ 64) (fun p => dat K (dPlan p))) (R := R_law_plan K 4) hbM rfl (eba_cons (eb_var (T := dat K (dWins ws)) rfl (h4A.mono frS9.vis)) (eba_cons (eb_varI rfl) (eba_cons eb_int (eb_one eb_int)))) ⟨m, n, st, ws, mk, 64, rfl, hws.2.1, hws.2.2, by omega, hm2, by omega, by omega, by omega, rfl⟩) (eb_one (eb_call (T := tyEx (WM.Vec m n) (tV K)) (R := R_law_vector K) hbM rfl (eba_cons (eb_varI rfl) (eb_one (eb_varI rfl))) ⟨m, n, rfl, by omega, by omega, by omega, rfl⟩))) fun v12 v13 H10 f10 B10 ⟨pl, ⟨hpl, hwid⟩, h12⟩ ⟨wt, hwt, h13⟩ => ?_
        dsimp only
        have frS10 := frS9.comp f10
        have hcases10 := (tyL K ([q0, q1].map (CaseD.ty K m n))).up frS10.vis hcases
        have h4B := h4A.mono frS10.vis
        have h5B := (tyCab K m n st ws).up frS10.vis h5A
        refine s_forP f10.ok (ei_l (K := K) (src := [q0, q1, q0]) (ty := CaseD.ty K m n) ((eg_catL (K := K) (by simp [cutT, HT.sIx]) (eg_var rfl hcases10) (eg_slL (K := K) (eg_var rfl hcases10) (fun _ _ => eo_none) (fun H1 e1 => eo_some (K := K) (f10.ok.ex e1) ed_int))).to ?_))
          (fun i σ' H' => ∃ y9 y14 y15, σ' = [some (.ref b), some (.int (m : Int)), some (.int (n : Int)), some (.int (st : Int)), some x4, some v5, some v6, some (.ref p), y8, y9, some x, some (.int (mk : Int)), some v12, some v13, y14, y15]) (fun H1 e1 => ⟨_, _, _, rfl⟩) ?_ ?_
        · rw [show (1 : Int) = ((1 : Nat) : Int) from rfl, cutT_up]
          rfl
        · rintro H11 j q xq σ' H' H12 e11 e11' hj ⟨y9, y14, y15, rfl⟩ e12 hxq
          have hqm := List.mem_of_getElem? hj
          have hq0k : CaseD.Ok m n st ws q := by
            simp only [List.mem_cons, List.not_mem_nil, or_false] at hqm
            rcases hqm with z | z | z
            · rw [z]; exact hcs q0 (by simp)
            · rw [z]; exact hcs q1 (by simp)
            · rw [z]; exact hcs q0 (by simp)
          refine g_tupU3 (K := K) hxq fun x14 x9 x15 hx14 hx9 hx15 => ?_
          dsimp only
          have eA := (e11.trans e11').trans e12
          have hok12 := f10.ok.ex eA
          have ex12 := hide_ex (M := M) eA
          refine sd_if (b := false) hok12 ((et_not (b := true) (et_B ((eg_call (T := tB K true) (R := R_law_is_refused K) (ega_cons (eg_var (T := tyCab K m n st ws) rfl ((tyCab K m n st ws).up ex12 h5B)) (ega_d (ed_varI (K := K) rfl) (ega_one (eg_var (T := tyCoset K m n q.L q.b) rfl hx14)))) ⟨rfl, rfl⟩).ed))).to rfl) (fun z => by cases z) fun _ H13 e13 => ?_
          dsimp only [tNext]
          have ex13 := hide_ex (M := M) (eA.trans e13)
          have ex13' := hide_ex (M := M) e13
          refine sd_if (b := false) (hok12.ex e13) ((et_not (b := true) (et_B ((eg_call (T := tB K true) (R := R_law_leaves_right K) (ega_cons (eg_tup (K := K) (Ts := [tI K m, dat K (dWins ws), tyCab K m n st ws, tI K mk]) (by simp) (ega_d (ed_varI rfl) (ega_d (ed_var rfl (h4B.mono ex13)) (ega_cons (eg_var rfl ((tyCab K m n st ws).up ex13 h5B)) (ega_d (ed_varI rfl) ega_nil))))) (ega_cons (eg_tup (K := K) (Ts := [tyCoset K m n q.L q.b, dat K (dL q.lot), dat K (dL q.ks)]) (by simp) (ega_cons (eg_var rfl ((tyCoset K m n q.L q.b).up ex13' hx14)) (ega_d (ed_var rfl (Dp.mono hx9 ex13')) (ega_d (ed_var rfl (Dp.mono hx15 ex13')) ega_nil)))) (ega_cons (eg_var (T := dat K (dPlan pl)) rfl (Dp.mono h12 ex13)) (ega_d (ed_var (K := K) (d := dV wt) rfl (Dp.mono h13 ex13)) ega_nil)))) ⟨m, n, st, ws, q.vs, q.L, q.b, q.lot, q.ks, pl, mk, wt, rfl, hm, hm2, hn, hn2, hq0k, hpl, by omega, hwt, rfl⟩).ed))).to rfl) (fun z => by cases z) fun _ H14 e14 => ⟨((e11'.trans e12).trans e13).trans e14, _, _, _, rfl⟩
        · rintro σ' H' e11 ⟨y9, y14, y15, rfl⟩
          exact ⟨_, _, _, _, _, _, _, rfl, ((fr8.comp f9).comp f10).gex e11, B10.up e11⟩
      · rintro HH σ' H' e ⟨y9, y10, y11, y12, y13, y14, y15, rfl, fr, B6⟩
        dsimp only
        have frS : Fr [b] M _ M H' := (Fr.ofEx frB.ok e).comp fr
        have frT : Fr [b] M H M H' := frB.comp frS
        have hcases2 := (tyL K ([q0, q1].map (CaseD.ty K m n))).up frS.vis hcases
        refine sd_ret (K := K) (d := .bool true) frT.ok ((ed_allB (l := [q0, q1]) (f := fun _ => true) (ed_lcA (K := K) (src := [q0, q1]) (ty := CaseD.ty K m n) (ei_l (eg_var rfl hcases2)) (by simp) (fun _ => .bool true) fun M' H6 x q i ex hM' hi hx => ?_)).bool (by simp)) fun v H8 e8 h => hq v H8 (frT.gex e8) (B6.up e8) h
        have hqm := List.mem_of_getElem? hi
        have hqk : CaseD.Ok m n st ws q := hcs q hqm
        obtain ⟨a, zs, rfl, hsq, hzs⟩ := hx
        obtain ⟨z1, z2, z3, rfl, hz1, hz2, hz3⟩ := allT3 hzs
        refine turn_trip hsq rfl et_yes fun _ => ?_
        have hfirst := WM.first_base hm0 hqk.cos hqk.srt hqk.all
        have hsize := WM.cos_size hm0 hqk.cos.tab hqk.cos.vec (WM.llt_nodup hqk.srt) hqk.all
        have hbv := hqk.cos.vec
        have hll := hqk.llen
        have hsho : Sho 1000 2 (.list [dV q.b, .int (q.lot.length : Int)]) := by
          refine (shoL (b := 100) (n := 1) (ds := [dV q.b, .int (q.lot.length : Int)]) fun d hd => ?_).wk (by simp) (by omega)
          simp only [List.mem_cons, List.not_mem_nil, or_false] at hd
          rcases hd with z | z
          · rw [z]
            exact (shoV fun a ha => by have := hbv.rng a ha; omega).wk (by rw [hbv.len]; omega) (Nat.le_refl _)
          · rw [z]
            exact (shoI (by omega)).wk (by omega) (by omega)
        refine eg_call (R := R_law_alike K) (ega_d (ed_lst (K := K) (ds := [dV q.b, .int (q.lot.length : Int)]) (by simp) (ea_cons (eg_meth (R := R_Coset_base K) (T := tV K q.b) (eg_var (T := tyCoset K m n q.L q.b) rfl hz1) rfl ega_nil ⟨m, n, q.L, q.b, rfl, rfl⟩).ed (ea_one ((eg_meth (R := R_Coset_size K) (T := tI K (WM.sz m q.L)) (eg_var (T := tyCoset K m n q.L q.b) rfl hz1) rfl ega_nil ⟨m, n, q.L, q.b, rfl, by omega, by omega, by omega, hqk.cos.tab, rfl⟩).ed.to (by rw [hsize]))))) (ega_d (ed_lst (K := K) (ds := [dV q.b, .int (q.lot.length : Int)]) (by simp) (ea_cons (ed_ixL (ds := q.lot.map dV) (atI_nat' (k := 0) (by rw [List.getElem?_map, hfirst]; rfl)) (ed_var rfl hz2) ed_int) (ea_one ((ed_len (ds := q.lot.map dV) (ed_var rfl hz2)).to (by rw [List.length_map]))))) ega_nil)) ⟨_, _, _, rfl, hsho, by omega, by omega, rfl, ?_, rfl⟩
        simp only [PyData.eqv, PyData.eqvAll, eqvAll_ints]
        simp)
end
end WL
end
section
set_option Elab.async false
set_option linter.all false
set_option maxRecDepth 100000
set_option maxHeartbeats 4000000
/-! D33: the great cabinets, the law. -/
namespace WL
open PySem PySem.Spec PyProof.Rows L2 Evl HeadW
section
variable {w : World} {K : PySem.W.Frag} {mg : Str → Option Value} {base : Heap}
abbrev N_law_great_leaf_right : List Str := ["_law_modulus", "_law_windows_here", "_law_start", "_law_plan_here", "_law_lot", "_law_leaf", "_law_readings", "_law_some", "_law_table", "_law_row", "_law_one", "_law_k"]
theorem sc_law_great_leaf_right : FnScope N_law_great_leaf_right ["_law_modulus", "_law_windows_here", "_law_start", "_law_plan_here", "_law_lot", "_law_leaf"] d_law_great_leaf_right.scope := ⟨rfl, rfl, rfl, by decide +kernel, rfl, by decide +kernel, by decide +kernel⟩
theorem bi_law_great_leaf_right (kV doc pm : Value) (an : Option Addr) (cdv ct : Value) (us : List Value) (hl : us.length = 6) : bindArgs (PySem.W.fnOf d_law_great_leaf_right.name d_law_great_leaf_right.qual d_law_great_leaf_right.params d_law_great_leaf_right.body d_law_great_leaf_right.scope .none kV doc pm an cdv ct) ⟨us, []⟩ = pure ((["_law_modulus", "_law_windows_here", "_law_start", "_law_plan_here", "_law_lot", "_law_leaf"] : List Str).zip us) := by
  match us, hl with
  | [_, _, _, _, _, _], _ => rfl

structure GreatLeaf (m n st : Nat) (ws : List W) (L : WM.Pv) (b0 : List Int) (p : Pl) (mk : Nat) (lf : WM.Leaf) : Prop where
  win : ∀ u ∈ ws, WM.WinOk m n st u
  wlen : ws.length ≤ 20
  plan : WM.PlanOk ws p mk 3
  tab : WM.Tab m n L
  base : WM.Vec m n b0
  cos : WM.Cos m n lf.2.1 lf.2.2
  mem : ∀ x, WM.Mem m n lf.2.1 lf.2.2 x → WM.In m (WM.Gen L) (fun i => WM.at_ x i - WM.at_ b0 i) ∧ ∃ wk, WM.Plays ws m p mk x lf.1 wk
def R_law_great_leaf_right (K : PySem.W.Frag) (Ts : List Ty) (T : Ty) : Prop := ∃ (m n st : Nat) (ws : List W) (L : WM.Pv) (b0 : List Int) (p : Pl) (mk : Nat) (lf : WM.Leaf), Ts = [tI K m, dat K (dWins ws), tI K mk, dat K (dPlan p), dat K (.tuple [dV b0, dL (L.map Prod.snd)]), tyLeaf K m n lf] ∧ 2 ≤ m ∧ m ≤ 60 ∧ 1 ≤ n ∧ n ≤ 6 ∧ GreatLeaf m n st ws L b0 p mk lf ∧ T = tB K true
theorem cal_law_great_leaf_right (G : Glb w K mg base) : C8.Cal PP w K mg base 3 "_law_great_leaf_right" (SpT (R_law_great_leaf_right K)) [] :=
  cal_mk G 79 (d := d_law_great_leaf_right) rfl rfl G.g_law_great_leaf_right rfl sc_law_great_leaf_right (k := 2) (spT_len fun Ts T ⟨_, _, _, _, _, _, _, _, _, h, _⟩ => by rw [h]; rfl) bi_law_great_leaf_right (fun f cdv A outer s H vs0 Q E hr hsp => by
    obtain ⟨M, Ts, T, hM, hv, ⟨m, n, st, ws, L, b0, p, mk, lf, rfl, hm, hm2, hn, hn2, hg, rfl⟩, hq⟩ := hsp
    obtain ⟨v1, v2, v3, v4, v5, v6, rfl, h1, h2, h3, h4, h5, h6⟩ := allT6 hv
    cases dp_int h1
    cases dp_int h3
    have hm0 : (0 : Int) < m := by omega
    have hc := hg.cos
    have hrows := hc.tab.piv.ok
    have hTl := hc.tab.piv.len_le
    refine ⟨_, (pss_cons (ps_asg (pv 5) (pg_tup rfl (pgs_cons (pg_name (i := 6) sc_law_great_leaf_right.nd rfl (by first | exact Or.inl rfl | exact Or.inr rfl)) (pgs_cons (pg_name (i := 7) sc_law_great_leaf_right.nd rfl (by first | exact Or.inl rfl | exact Or.inr rfl)) pgs_nil))))
      (pss_cons (ps_set (i := 8) sc_law_great_leaf_right.nd rfl (by first | exact Or.inl rfl | exact Or.inr rfl) (C8.pe_mt0 (met_Span_table G) hr (by decide) (C8.pe_mt0 (met_Coset_span G) hr (by decide) (pv 7))))
      (pss_cons (ps_for PassesOwn.never rfl (pi_list (pe_op op_catS (pe_lst (pa_cons (pe_op op_repTA (pe_tup (pa_cons pe_int pa_nil)) (pe_callB (id := "len") call_len (by rfl) G.f_len (by decide +kernel) (pa_cons (C8.pe_mt0 (met_Coset_base G) hr (by decide) (pv 7)) pa_nil))) pa_nil)) (pv 8))) (pg_name (i := 9) sc_law_great_leaf_right.nd rfl (by first | exact Or.inl rfl | exact Or.inr rfl)) (pss_cons (ps_set (i := 10) sc_law_great_leaf_right.nd rfl (by first | exact Or.inl rfl | exact Or.inr rfl) (pe_callTy (T := "tuple") call_tuple_of (by rfl) G.f_tuple (by decide +kernel) (pa_cons (pe_lc (own := [("_law_k", 11)]) (g := (gName 11)) (tt := tYes) rfl sc_law_great_leaf_right.nd (pi_range1 (by rfl) G.f_range (pa_cons (pe_callB (id := "len") call_len (by rfl) G.f_len (by decide +kernel) (pa_cons (pv 9) pa_nil)) pa_nil)) (blkOk_by (N := N_law_great_leaf_right) (sc := d_law_great_leaf_right.scope) (by decide +kernel)) (fun _ _ _ _ _ => (pg_name (i := 11) sc_law_great_leaf_right.nd rfl (by first | exact Or.inl rfl | exact Or.inr rfl))) (fun _ _ _ _ _ => pts_nil) (fun _ _ _ _ _ => (pe_op op_mod (pe_op op_add (pe_ix (ix_tupK (K := K) rfl) (C8.pe_mt0 (met_Coset_base G) hr (by decide) (pv 7)) (pv 11) (fun _ _ => rfl)) (pe_ix (ix_tupK (K := K) rfl) (pv 9) (pv 11) (fun _ _ => rfl))) (pv 0)))) pa_nil)))
      (pss_cons (ps_if (pt_not (pt_val (C8.pe_c (cal_law_within G) hr (by decide) (by rfl) (pa_cons (pv 0) (pa_cons (pe_ix ix_tup (pv 4) pe_int (fun _ _ => rfl)) (pa_cons (pe_ix ix_tup (pv 4) pe_int (fun _ _ => rfl)) (pa_cons (pv 10) pa_nil))))))) (pss_one (ps_ret pe_bl)) pss_nil)
      (pss_one (ps_if (pt_cmpR (op_neD hr.units) (pe_ix ix_tup (C8.pe_c (cal_law_played G) hr (by decide) (by rfl) (pa_cons (pv 0) (pa_cons (pv 1) (pa_cons (pv 2) (pa_cons (pv 10) (pa_cons (pv 3) pa_nil)))))) pe_int (fun _ _ => rfl)) (pv 6) (nomark _)) (pss_one (ps_ret pe_bl)) pss_nil)))))
      (pss_one (ps_ret (pe_cmpR op_eq (C8.pe_mt0 (met_Coset_size G) hr (by decide) (pv 7)) (C8.pe_c (cal_law_size G) hr (by decide) (by rfl) (pa_cons (pv 0) (pa_cons (pv 8) pa_nil))) (nomark _))))))), ?_⟩
    refine sg_bind hM (eg_var (T := tyLeaf K m n lf) rfl h6) fun vb H1 e1 hb => ?_
    refine g_tupU2 (K := K) hb fun x6 x7 hx6 hx7 => ?_
    dsimp only
    have cos : ∀ (M' : List Addr) (τ : L2.St) (H' : Hp), Ex (hide M H1) (hide M' H') → τ[7]? = some (some x7) → EG M' (tVar 7) τ H' (tyCoset K m n lf.2.1 lf.2.2) := fun M' τ H' e h => eg_var h ((tyCoset K m n lf.2.1 lf.2.2).up e hx7)
    refine sd_set (K := K) (d := dL (lf.2.1.map Prod.snd)) (hM.ex e1) (eg_meth (R := R_Span_table K) (eg_meth (R := R_Coset_span K) (T := tySpan K m n lf.2.1) (cos M _ H1 (Ex.refl _) rfl) rfl ega_nil ⟨m, n, lf.2.1, lf.2.2, rfl, rfl⟩) rfl ega_nil ⟨m, n, lf.2.1, rfl, rfl⟩).ed fun v8 H2 e2 h8 => ?_
    dsimp only
    have e02 := e1.trans e2
    refine s_forP (hM.ex e02) (ei_ld (K := K) (src := zeros n :: lf.2.1.map Prod.snd) (f := dV) (ed_catD (as := [dV (zeros n)]) (bs := (lf.2.1.map Prod.snd).map dV) (by simp; omega) (ed_lst (by simp) (ea_one (ed_zeros hn (by omega) ((lenV' (eg_meth (R := R_Coset_base K) (T := tV K lf.2.2) (cos M _ H2 (hide_ex e2) rfl) rfl ega_nil ⟨m, n, lf.2.1, lf.2.2, rfl, rfl⟩).ed).to (by rw [hc.vec.len]))))) (ed_var rfl h8)))
      (fun i σ' H' => ∃ y9 y10 y11, σ' = [some (.int (m : Int)), some v2, some (.int (mk : Int)), some v4, some v5, some v6, some x6, some x7, some v8, y9, y10, y11]) (fun H1 e1 => ⟨_, _, _, rfl⟩) ?_ ?_
    · rintro H3 i row xr σ' H' H4 e3 e3' hi ⟨y9, y10, y11, rfl⟩ e4 hxr
      dsimp only
      have hmem := List.mem_of_getElem? hi
      have hrow : WM.Vec m n row ∧ WM.In m (WM.Gen lf.2.1) (WM.at_ row) := by
        rcases List.mem_cons.mp hmem with z | z
        · rw [z]; exact ⟨vec_zeros hm0 n, .zero fun i => by rw [at_zeros]; exact Int.dvd_zero _⟩
        · obtain ⟨⟨k, r⟩, hq, e⟩ := List.mem_map.mp z
          subst e
          exact ⟨(hrows k r hq).toVec, .gen ⟨k, r, hq, rfl⟩⟩
      have eA := (e3.trans e3').trans e4
      have e24 := e2.trans eA
      have hb := hc.vec
      have hx : WM.Mem m n lf.2.1 lf.2.2 (WM.comb m 1 lf.2.2 1 row) := ⟨WM.Vec.comb hm0 hb.len hrow.1.len, (WM.comb_in (by rw [hb.len, hrow.1.len])).mpr hrow.2⟩
      obtain ⟨hin, wk, hpl⟩ := hg.mem _ hx
      have hxr : Dp K (hide M H4) xr (dV row) := hxr
      refine sd_set (K := K) (d := dV (WM.comb m 1 lf.2.2 1 row)) ((hM.ex e02).ex eA) (ed_tupleOf ((ed_lcRZ (K := K) (n := n) hb.len hrow.1.len (ea_one ((lenV' (ed_var rfl hxr)).to (by rw [hrow.1.len]))) (by omega) (fun a b => (a + b) % m) (fun _ => rfl) fun M' H5 a ex hM' ha => ?_).to (by rw [WM.zip_add]))) fun v10 H5 e5 h10 => ?_
      · exact ed_mod hm0 (ed_add (ed_at (by rw [hb.len]; exact ha) (eg_meth (R := R_Coset_base K) (T := tV K lf.2.2) (cos M' _ H5 ((hide_ex e24).trans ex) rfl) rfl ega_nil ⟨m, n, lf.2.1, lf.2.2, rfl, rfl⟩).ed (ed_varI rfl)) (ed_at (by rw [hrow.1.len]; exact ha) (ed_var rfl (hxr.mono ex)) (ed_varI rfl))) (ed_varI rfl)
      dsimp only
      have e05 := (e02.trans eA).trans e5
      have h55 := Dp.mono h5 (hide_ex (M := M) e05)
      have hred : WM.red m L (WM.comb m 1 (WM.comb m 1 lf.2.2 1 row) (-1) b0) = zeros n := by
        have hV : WM.Vec m n (WM.comb m 1 (WM.comb m 1 lf.2.2 1 row) (-1) b0) := WM.Vec.comb hm0 hx.1.len hg.base.len
        have := (hg.tab.red_mem hm0 hV).mpr (hin.cg fun i => by
          have := WM.comb_cg (m := (m : Int)) (a := 1) (b := -1) (u := WM.comb m 1 lf.2.2 1 row) (v := b0) (by rw [hx.1.len, hg.base.len]) i
          rwa [show (1 : Int) * WM.at_ (WM.comb m 1 lf.2.2 1 row) i + -1 * WM.at_ b0 i = WM.at_ (WM.comb m 1 lf.2.2 1 row) i - WM.at_ b0 i by omega] at this)
        refine WM.at_ext (by rw [(WM.red_vec hm0 hg.tab.piv.ok hV).len]; simp) fun i _ => by rw [this i, at_zeros]
      refine sd_if (b := false) (hM.ex e05) ((et_not (b := true) (et_B (eg_call (T := tB K true) (R := R_law_within K) (ega_d (ed_varI (K := K) rfl) (ega_d (ed_ixT (K := K) (ds := [dV b0, dL (L.map Prod.snd)]) (d := dL (L.map Prod.snd)) rfl (ed_var rfl h55) ed_int) (ega_d (ed_ixT (K := K) (ds := [dV b0, dL (L.map Prod.snd)]) (d := dV b0) rfl (ed_var rfl h55) ed_int) (ega_d (ed_var (K := K) (d := dV (WM.comb m 1 lf.2.2 1 row)) rfl h10) ega_nil)))) ⟨m, n, L, b0, _, rfl, hm0, by omega, hn, by omega, hg.base, hx.1, hg.tab.piv.ok, by rw [hred]; simp⟩).ed)).to rfl) (fun z => by cases z) fun _ H6 e6 => ?_
      dsimp only [tNext]
      have e06 := e05.trans e6
      have hshort := WM.plays_short hg.plan hpl
      refine sd_if (b := false) (hM.ex e06) ((et_test (ed_neD (K := K) (d1 := dV lf.1) (d2 := dV lf.1) (shaped_dV _) (shaped_dV _) (EG.wk (T := tyVP lf.1) (U := tV K lf.1) (eg_ixU (K := K) (Ts := [tyVP lf.1, dat K (dWins wk)]) rfl (eg_call (R := R_law_played K) (ega_d (ed_varI (K := K) rfl) (ega_d (ed_var (K := K) (d := dWins ws) rfl (Dp.mono h2 (hide_ex e06))) (ega_d (ed_varI (K := K) rfl) (ega_d (ed_var (K := K) (d := dV (WM.comb m 1 lf.2.2 1 row)) rfl (Dp.mono h10 (hide_ex e6))) (ega_d (ed_var (K := K) (d := dPlan p) rfl (Dp.mono h4 (hide_ex e06))) ega_nil))))) ⟨m, n, st, ws, mk, _, p, lf.1, wk, rfl, hm0, by omega, by omega, by have := hg.wlen; omega, hg.win, hx.1, hpl, by omega, rfl⟩) ed_int) fun v H' h => tyVP_d h).ed (ed_var rfl (Dp.mono hx6 (hide_ex (e2.trans ((eA.trans e5).trans e6))))))).to (by rw [eqv_dV]; simp)) (fun z => by cases z) fun _ H7 e7 => ⟨((e3'.trans e4).trans e5).trans (e6.trans e7), _, _, _, rfl⟩
    · rintro σ' H' e ⟨y9, y10, y11, rfl⟩
      dsimp only
      have e03 := e02.trans e
      refine sd_ret (K := K) (d := .bool true) (hM.ex e03) ((ed_eqI (eg_meth (R := R_Coset_size K) (T := tI K (WM.sz m lf.2.1)) (cos M _ H' (hide_ex (e2.trans e)) rfl) rfl ega_nil ⟨m, n, lf.2.1, lf.2.2, rfl, by omega, by omega, by omega, hc.tab, rfl⟩).ed (eg_call (R := R_law_size K) (T := tI K (WM.sz m lf.2.1)) (ega_d (ed_varI (K := K) rfl) (ega_d (ed_var (K := K) (d := dL (lf.2.1.map Prod.snd)) rfl (Dp.mono h8 (hide_ex e))) ega_nil)) ⟨m, n, lf.2.1, rfl, hm0, by omega, by omega, hrows, rfl⟩).ed).bool (by simp)) fun v H3 e3 h => hq v H3 (e03.trans e3) h)
end
end WL
end
section
set_option Elab.async false
set_option linter.all false
set_option maxRecDepth 100000
set_option maxHeartbeats 4000000
/-! D34: _law_great_right, law. -/
namespace WL
open PySem PySem.Spec PyProof.Rows L2 Evl HeadW
section
variable {w : World} {P : Program} {K : PySem.W.Frag} {M : List Addr} {σ : L2.St} {H : Hp} {te : TE}
/-- sorted(set(xs)), vectors -/
theorem eg_sortedSetV {l : List (List Int)} (h : ED K M te σ H (dL l)) (hl : l.length < 64) (hne : (∀ x ∈ l, x ≠ []) ∨ ∀ x ∈ l, x = []) :
    EG M (tCB (rSortedSV K P w) (tCons (tCB (rSetOfT K P w) (tCons te tNil)) tNil)) σ H (tyEx (fun l' : List (List Int) => l'.Nodup ∧ (∀ x, x ∈ l' ↔ x ∈ l) ∧ l'.Pairwise fun a b => ¬ WM.LLt b a) (fun l' => dat K (dL l'))) := fun hM H1 e Q q =>
  h hM H1 e _ fun v H2 e2 hv => by
    obtain ⟨a, xs, rfl, hs, hx⟩ := dp_lst hv
    obtain ⟨L0, rfl, rfl, hL⟩ := refs_of (AllT.of_dpf hx)
    rw [List.length_map] at hl
    have vis : ∀ p ∈ L0, SqT K H2 p.1 (p.2.map V.int) := fun p hp => ex_t (hide_sub _ _) (hL p hp)
    refine ⟨a, L0, rfl, ex_l (hide_sub _ _) hs, vis, hl, fun a2 L hn2 hsub hall => ?_⟩
    have e3 : Ex H2 (upd H2 a2 (SetTO P w a2 L)) := Ex.new hn2
    refine ⟨a2, L, rfl, upd_same, fun p hp => ex_t e3 (vis p (hsub p hp)), hne.imp (fun h p hp => h _ (List.mem_map.mpr ⟨p, hsub p hp, rfl⟩)) (fun h p hp => h _ (List.mem_map.mpr ⟨p, hsub p hp, rfl⟩)), fun L' p hp hnd hs' hn => q _ _ ((e2.trans e3).trans (Ex.new hn)) ?_⟩
    refine ⟨L'.map Prod.snd, ⟨hnd, fun x => ?_, List.pairwise_map.mpr hs'⟩, .lst (sq_of (by rw [hide_out ((hM.ex ((e.trans e2).trans e3)).new hn)]; exact upd_same)) ?_⟩
    · rw [List.mem_map]
      constructor
      · rintro ⟨r, hr, rfl⟩
        exact List.mem_map.mpr ⟨r, hsub r (hp.mem_iff.mp hr), rfl⟩
      · intro hx
        obtain ⟨r, hr, rfl⟩ := List.mem_map.mp hx
        obtain ⟨r2, h1, h2⟩ := List.mem_map.mp (hall r hr)
        exact ⟨r2, hp.mem_iff.mpr h1, h2⟩
    · have : ∀ L1 : List (Addr × List Int), (∀ q ∈ L1, q ∈ L0) → DpAll K (hide M (upd (upd H2 a2 (SetTO P w a2 L)) p (.lst (L'.map fun q => V.ref q.1)))) (L1.map fun q => V.ref q.1) ((L1.map Prod.snd).map dV) := fun L1 => by
        induction L1 with
        | nil => exact fun _ => .nil
        | cons r L1 ih => exact fun hq => .cons (vec_dp (ex_t ((new_ex hn2).trans (new_ex hn)) (hL r (hq r (by simp))))) (ih fun b hb => hq b (by simp [hb]))
      exact this L' fun r hr => hsub r (hp.mem_iff.mp hr)
end
section
variable {w : World} {K : PySem.W.Frag} {mg : Str → Option Value} {base : Heap}
abbrev N_law_great_right : List Str := ["_law_bag_here", "_law_modulus", "_law_wheels", "_law_stops", "_law_windows_here", "_law_vectors_here", "_law_base", "_law_table", "_law_start", "_law_plan_here", "_law_cabinet_here", "_law_found", "_law_leaf"]
theorem sc_law_great_right : FnScope N_law_great_right ["_law_bag_here"] d_law_great_right.scope := ⟨rfl, rfl, rfl, by decide +kernel, rfl, by decide +kernel, by decide +kernel⟩
theorem bi_law_great_right (kV doc pm : Value) (an : Option Addr) (cdv ct : Value) (us : List Value) (hl : us.length = 1) : bindArgs (PySem.W.fnOf d_law_great_right.name d_law_great_right.qual d_law_great_right.params d_law_great_right.body d_law_great_right.scope .none kV doc pm an cdv ct) ⟨us, []⟩ = pure ((["_law_bag_here"] : List Str).zip us) := by
  match us, hl with
  | [_], _ => rfl

def R_law_great_right (K : PySem.W.Frag) (Ts : List Ty) (T : Ty) : Prop := Ts = [] ∧ T = tB K true
theorem cal_law_great_right (G : Glb w K mg base) : C8.Cal PP w K mg base 15 "_law_great_right" (SpB (R_law_great_right K)) [] :=
  cal_mk G 80 (d := d_law_great_right) rfl rfl G.g_law_great_right rfl sc_law_great_right (k := 14) (spB_len fun Ts T ⟨h, _⟩ => by rw [h]; rfl) bi_law_great_right (fun f cdv A outer s H vs0 Q E hr hsp => by
    obtain ⟨M, b, c, ws0, Ts, T, hM, hbM, hB, rfl, hv, ⟨rfl, rfl⟩, hq⟩ := hsp
    cases hv
    refine ⟨_, (pss_cons (ps_asg (C8.pe_c (cal_law_great_cabinet G) hr (by decide) (by rfl) (pa_cons (pv 0) (pa_cons pe_int pa_nil))) (pg_tup rfl (pgs_cons (pg_name (i := 1) sc_law_great_right.nd rfl (by first | exact Or.inl rfl | exact Or.inr rfl)) (pgs_cons (pg_name (i := 2) sc_law_great_right.nd rfl (by first | exact Or.inl rfl | exact Or.inr rfl)) (pgs_cons (pg_name (i := 3) sc_law_great_right.nd rfl (by first | exact Or.inl rfl | exact Or.inr rfl)) (pgs_cons (pg_name (i := 4) sc_law_great_right.nd rfl (by first | exact Or.inl rfl | exact Or.inr rfl)) pgs_nil))))))
      (pss_cons (ps_par (i := 5) (j := 6) (by rfl) sc_law_great_right.nd rfl rfl (by decide) rfl rfl (pa_cons (C8.pe_c (cal_law_unknown_span G) hr (by decide) (by rfl) (pa_cons (pv 0) (pa_cons (pv 1) (pa_cons (pv 2) pa_nil)))) (pa_cons (C8.pe_c (cal_law_vector G) hr (by decide) (by rfl) (pa_cons (pv 0) (pa_cons (pv 1) (pa_cons (pv 2) pa_nil)))) pa_nil)) (by rfl))
      (pss_cons (ps_par (i := 7) (j := 8) (by rfl) sc_law_great_right.nd rfl rfl (by decide) rfl rfl (pa_cons (C8.pe_c (cal_law_hermite G) hr (by decide) (by rfl) (pa_cons (pv 1) (pa_cons (pv 2) (pa_cons (pv 5) pa_nil)))) (pa_cons (C8.pe_c (cal_law_take G) hr (by decide) (by rfl) (pa_cons (pv 0) (pa_cons (pv 3) pa_nil))) pa_nil)) (by rfl))
      (pss_cons (ps_set (i := 9) sc_law_great_right.nd rfl (by first | exact Or.inl rfl | exact Or.inr rfl) (C8.pe_c (cal_law_plan G 4) hr (by decide) (by rfl) (pa_cons (pv 0) (pa_cons (pv 4) (pa_cons (pv 8) (pa_cons pe_int (pa_cons pe_int pa_nil)))))))
      (pss_cons (ps_set (i := 10) sc_law_great_right.nd rfl (by first | exact Or.inl rfl | exact Or.inr rfl) (pe_mkN (mak_Cabinet G) hr (by decide) (by rfl) (pa_cons (pv 1) (pa_cons (pv 2) (pa_cons (pe_callTy (T := "list") call_list_of (by rfl) G.f_list (by decide +kernel) (pa_cons (pv 4) pa_nil)) pa_nil))) (pk_cons (pv 3) pk_nil)))
      (pss_cons (ps_set (i := 11) sc_law_great_right.nd rfl (by first | exact Or.inl rfl | exact Or.inr rfl) (C8.pe_c (cal_leaves G) hr (by decide) (by rfl) (pa_cons (pv 10) (pa_cons (pv 8) (pa_cons (C8.pe_mk (mak_Coset G) hr (by decide) (by rfl) (pa_cons (pv 6) (pa_cons (C8.pe_mk (mak_Span G) hr (by decide) (by rfl) (pa_cons (pv 1) (pa_cons (pv 2) (pa_cons (pv 5) pa_nil)))) pa_nil))) (pa_cons (pv 9) pa_nil))))))
      (pss_cons (ps_if (PW.pt (pw_or (pt_not (pt_val (C8.pe_c (cal_law_are_leaves G) hr (by decide) (by rfl) (pa_cons (pv 11) pa_nil)))) (pw_or1 (pt_cmpR (op_neD hr.units) (pe_lc (own := [("_law_leaf", 12)]) (g := (gName 12)) (tt := tYes) rfl sc_law_great_right.nd (pi_list (pv 11)) (blkOk_by (N := N_law_great_right) (sc := d_law_great_right.scope) (by decide +kernel)) (fun _ _ _ _ _ => (pg_name (i := 12) sc_law_great_right.nd rfl (by first | exact Or.inl rfl | exact Or.inr rfl))) (fun _ _ _ _ _ => pts_nil) (fun _ _ _ _ _ => (pe_ix (ix_tupK (K := K) rfl) (pv 12) pe_int (fun _ _ => rfl)))) (pe_callB (id := "sorted") (cr_sortedST rfl hr.units) (by rfl) G.f_sorted (by decide +kernel) (pa_cons (pe_callTy (T := "set") (cr_setOfT rfl hr.units) (by rfl) G.f_set (by decide +kernel) (pa_cons (pe_lc (own := [("_law_leaf", 12)]) (g := (gName 12)) (tt := tYes) rfl sc_law_great_right.nd (pi_list (pv 11)) (blkOk_by (N := N_law_great_right) (sc := d_law_great_right.scope) (by decide +kernel)) (fun _ _ _ _ _ => (pg_name (i := 12) sc_law_great_right.nd rfl (by first | exact Or.inl rfl | exact Or.inr rfl))) (fun _ _ _ _ _ => pts_nil) (fun _ _ _ _ _ => (pe_ix (ix_tupK (K := K) rfl) (pv 12) pe_int (fun _ _ => rfl)))) pa_nil)) pa_nil)) (nomark _))))) (pss_one (ps_ret pe_bl)) pss_nil)
      (pss_cons (ps_for PassesOwn.never rfl (pi_list (pv 11)) (pg_name (i := 12) sc_law_great_right.nd rfl (by first | exact Or.inl rfl | exact Or.inr rfl)) (pss_one (ps_if (pt_not (pt_val (C8.pe_c (cal_law_great_leaf_right G) hr (by decide) (by rfl) (pa_cons (pv 1) (pa_cons (pv 4) (pa_cons (pv 8) (pa_cons (pv 9) (pa_cons (pe_tup (pa_cons (pv 6) (pa_cons (pv 7) pa_nil))) (pa_cons (pv 12) pa_nil))))))))) (pss_one (ps_ret pe_bl)) pss_nil)))
      (pss_one (ps_ret (pe_cmpR op_eq (pe_callB (id := "sum") (cr_sum rfl) (by rfl) G.f_sum (by decide +kernel) (pa_cons (pe_lc (own := [("_law_leaf", 12)]) (g := (gName 12)) (tt := tYes) rfl sc_law_great_right.nd (pi_list (pv 11)) (blkOk_by (N := N_law_great_right) (sc := d_law_great_right.scope) (by decide +kernel)) (fun _ _ _ _ _ => (pg_name (i := 12) sc_law_great_right.nd rfl (by first | exact Or.inl rfl | exact Or.inr rfl))) (fun _ _ _ _ _ => pts_nil) (fun _ _ _ _ _ => (C8.pe_mt0 (met_Coset_size G) hr (by decide) (pe_ix (ix_tupK (K := K) rfl) (pv 12) pe_int (fun _ _ => rfl))))) pa_nil)) (C8.pe_c (cal_law_size G) hr (by decide) (by rfl) (pa_cons (pv 1) (pa_cons (pv 7) pa_nil))) (nomark _)))))))))))), ?_⟩
    refine sb_bind hM hB (eb_call (R := R_law_great_cabinet K) hbM rfl (eb_one eb_int) ⟨5, rfl, by omega, rfl⟩) fun vc H1 f1 B1 ⟨⟨m, n, st, ws⟩, ⟨hsm, hst1, hst2, hws⟩, hvc⟩ => ?_
    refine g_tup4 (K := K) hvc fun x1 x2 x3 x4 h1 h2 h3 h4 => ?_
    cases dp_int h1
    cases dp_int h2
    cases dp_int h3
    dsimp only at hsm hst1 hst2 hws h4 ⊢
    have h4 : Dp K (hide M H1) x4 (dWins ws) := h4
    obtain ⟨hm, hm2, hn, hn2⟩ := hsm
    have hm : 2 ≤ m := hm
    have hm2 : m ≤ 60 := hm2
    have hn : 1 ≤ n := hn
    have hn2 : n ≤ 6 := hn2
    have hm0 : (0 : Int) < m := by omega
    have hwl := hws.1
    have hwin : ∀ u ∈ ws, WM.WinOk m n st u := fun u hu => (hws.2.1 u hu).1
    refine s_parB f1.ok B1 (eba_cons (eb_call (T := tyEx (VecsOk m n 6) (fun vs => dat K (dL vs))) (R := R_law_unknown_span K) hbM rfl (eba_cons (eb_varI rfl) (eb_one (eb_varI rfl))) ⟨m, n, rfl, hm, hm2, hn2, rfl⟩) (eb_one (eb_call (T := tyEx (WM.Vec m n) (tV K)) (R := R_law_vector K) hbM rfl (eba_cons (eb_varI rfl) (eb_one (eb_varI rfl))) ⟨m, n, rfl, by omega, by omega, by omega, rfl⟩))) fun v5 v6 H2 f2 B2 ⟨vs, ⟨hvl, hvv⟩, h5⟩ ⟨b0, hb0, h6⟩ => ?_
    dsimp only
    have f12 := f1.comp f2
    refine s_parB f2.ok B2 (T1 := tyEx (HerOk m n vs) (fun L => dat K (dL (L.map Prod.snd)))) (eba_cons (eb_g fun H3 f3 => eg_call (R := R_law_hermite K) (ega_d (ed_varI (K := K) rfl) (ega_d (ed_varI (K := K) rfl) (ega_d (ed_var (K := K) (d := dL vs) rfl (Dp.mono h5 f3.vis)) ega_nil))) ⟨m, n, vs, rfl, hm, hm2, hn, hn2, by omega, hvv, rfl⟩) (eb_one (eb_call (T := tIn K 0 st) (R := R_law_take K) hbM rfl (eb_one (eb_varI rfl)) ⟨st, rfl, by omega, by omega, rfl⟩))) fun v7 v8 H3 f3 B3 ⟨L, ⟨hLT, hLs⟩, h7⟩ ⟨mk, hmk, h8⟩ => ?_
    cases dp_int h8
    obtain ⟨mk, rfl⟩ : ∃ y : Nat, mk = (y : Int) := ⟨mk.toNat, by omega⟩
    dsimp only
    have f13 := f12.comp f3
    have h43 := (h4.mono f2.vis).mono f3.vis
    refine sb_set f3.ok B3 (eb_call (T := tyEx (fun p : Pl => WM.PlanOk ws p mk 3 ∧ wid p ≤ 60) (fun p => dat K (dPlan p))) (R := R_law_plan K 4) hbM rfl (eba_cons (eb_var (T := dat K (dWins ws)) rfl h43) (eba_cons (eb_varI rfl) (eba_cons eb_int (eb_one eb_int)))) ⟨m, n, st, ws, mk, 60, rfl, hws.2.1, hws.2.2, by omega, hm2, by omega, by omega, by omega, rfl⟩) fun v9 H4 f4 B4 ⟨p, ⟨hp, hwid⟩, h9⟩ => ?_
    dsimp only
    have f14 := f13.comp f4
    have h44 := h43.mono f4.vis
    have h54 := (Dp.mono h5 f3.vis).mono f4.vis
    have h64 := (Dp.mono h6 f3.vis).mono f4.vis
    have h74 := Dp.mono h7 f4.vis
    refine sg_set f4.ok (eg_makeK (R := R_Cabinet_init K) (P := IsCab K m n st ws) (ega_d (ed_varI (K := K) rfl) (ega_d (ed_varI (K := K) rfl) (ega_d (ed_listOf (ed_var (K := K) rfl h44)) ega_nil))) (ega_d (ed_varI (K := K) rfl) ega_nil) rfl rfl ⟨m, n, st, ws, rfl, by omega, by omega, hn, hn2, hst1, hst2, by omega, hws.2.1, hws.2.2, rfl⟩) fun v10 H5 e5 ⟨fs, hfs, h10⟩ => ?_
    have hfs : fs = fsCab K m n st ws := hfs
    subst hfs
    have h10 : (tyCab K m n st ws).p v10 (hide M H5) := h10
    dsimp only
    have hok5 := f4.ok.ex e5
    have ex5 := hide_ex (M := M) e5
    refine sg_set hok5 (T := tyEx (fun q : WM.Pv × List WM.Leaf => WM.Tab m n q.1 ∧ (∀ f, WM.In m (WM.Gen q.1) f ↔ WM.In m (GenL vs) f) ∧ WM.Leaves ws m n q.1 (WM.red m q.1 b0) p mk q.2 ∧ q.2.length ≤ wid p) (fun q => tyLN (q.2.map (tyLeaf K m n)))) (fun hM2 H6 e6 Q q => ?_) fun v11 H6 e6 ⟨⟨TL, res⟩, ⟨hT, hTs, hres, hrl⟩, h11⟩ => ?_
    · refine ⟨v10, rfl, .int (mk : Int), rfl, ?_⟩
      have ex6 := hide_ex (M := M) e6
      refine (eg_make (R := R_Coset_init K) (P := IsCos K m n b0 fun TL => ∀ f, WM.In m (WM.Gen TL) f ↔ WM.In m (GenL vs) f) (σ := [some (.ref b), some (.int (m : Int)), some (.int (n : Int)), some (.int (st : Int)), some x4, some v5, some v6, some v7, some (.int (mk : Int)), some v9, some v10, none, none]) (H := H6) (M := M) (ega_d (ed_var (K := K) (d := dV b0) rfl ((h64.mono ex5).mono ex6)) (ega_cons (eg_make (R := R_Span_init K) (P := IsSpan K m n (GenL vs)) (ega_d (ed_varI (K := K) rfl) (ega_d (ed_varI (K := K) rfl) (ega_d (ed_var (K := K) (d := dL vs) rfl ((h54.mono ex5).mono ex6)) ega_nil))) ⟨vs, n, m, rfl, by omega, by omega, hn, by omega, by omega, hvv, rfl⟩) ega_nil)) ⟨m, n, b0, _, IsSpan K m n (GenL vs), rfl, fun fs ⟨TL, ⟨a1, a2⟩, a3⟩ => ⟨TL, a1, a2, a3⟩, by omega, by omega, by omega, hb0, rfl⟩) (hM2.ex e6) H6 (Ex.refl _) _ fun vco H7 e7 ⟨fs, ⟨TL, hT, hTs, hfs⟩, hco⟩ => ?_
      subst hfs
      have hco : (tyCoset K m n TL (WM.red m TL b0)).p vco (hide M H7) := hco
      refine ⟨v9, rfl, ⟨M, [tyCab K m n st ws, tI K mk, tyCoset K m n TL (WM.red m TL b0), dat K (dPlan p)], _, hM2.ex (e6.trans e7), ?_, ⟨m, n, st, ws, mk, TL, WM.red m TL b0, p, rfl, by omega, by omega, hn, by omega, hwin, WM.Cos.of hm0 hT hb0, hp, by omega, rfl⟩, fun v H8 e8 ⟨res, ⟨h1, h2⟩, h3⟩ _ => q v H8 (e7.trans e8) ⟨(TL, res), ⟨hT, hTs, h1, h2⟩, h3⟩⟩⟩
      exact .cons ((tyCab K m n st ws).up (ex6.trans (hide_ex e7)) h10) (.cons (.int _) (.cons hco (.cons (((Dp.mono h9 ex5).mono ex6).mono (hide_ex e7)) .nil)))
    · dsimp only at hT hTs hres hrl h11 ⊢
      have hok6 := hok5.ex e6
      have e46 := e5.trans e6
      have ex46 := hide_ex (M := M) e46
      have hfound : (tyL K (res.map (tyLeaf K m n))).p v11 (hide M H6) := tyLN_l h11
      have rdne : (∀ x ∈ res.map (·.1), x ≠ []) ∨ ∀ x ∈ res.map (·.1), x = [] := by
        by_cases z : ∃ x ∈ res.map (·.1), x = []
        · refine .inr fun y hy => ?_
          obtain ⟨x, hx, hxe⟩ := z
          obtain ⟨lf, hl, rfl⟩ := List.mem_map.mp hx
          obtain ⟨lf', hl', rfl⟩ := List.mem_map.mp hy
          obtain ⟨wk, h1⟩ := ((hres.mem lf hl lf.2.2).mp (hres.cos lf hl).base).2
          obtain ⟨wk', h2⟩ := ((hres.mem lf' hl' lf'.2.2).mp (hres.cos lf' hl').base).2
          rw [hxe] at h1
          exact WM.plays_nil h1 h2
        · exact .inl fun x hx e => z ⟨x, hx, e⟩
      have rds : ∀ {σ : L2.St}, σ[11]? = some (some v11) → (∀ x, wipe ((wipe σ [12]).set 12 (some x)) [12] = wipe σ [12]) → (∀ x, ((wipe σ [12]).set 12 (some x))[12]? = some (some x)) → ED K M (tLc (iList K (tVar 11)) (gName 12) tYes (tOp (rIxT K) (tVar 12) (tC (.int 0))) [12]) σ H6 (dL (res.map (·.1))) := fun {σ} hs hw hx => (ed_lcA (K := K) (src := res) (ty := tyLeaf K m n) (ei_l (eg_var hs hfound)) (by omega) (fun lf => dV lf.1) fun M' H' x lf i ex hM' hi hxp => turn_name (hw x) et_yes fun _ => eg_ixU (K := K) (Ts := [tV K lf.1, tyCoset K m n lf.2.1 lf.2.2]) rfl (eg_var (hx x) hxp) ed_int).to (by rw [dL, List.map_map]; rfl)
      refine sd_if (b := false) hok6 ((et_or (b := false) (c := false) ((et_not (b := true) (et_B ((eg_call (T := tB K true) (R := R_law_are_leaves K) (ega_cons (eg_var rfl hfound) ega_nil) ⟨m, n, res, rfl, by omega, rfl⟩).ed))).to rfl) fun _ => (et_test (ed_neD (K := K) (d1 := dL (res.map (·.1))) (d2 := dL (res.map (·.1))) (shaped_dL _) (shaped_dL _) (rds rfl (fun _ => rfl) (fun _ => rfl)) ((eg_sortedSetV (K := K) (l := res.map (·.1)) (rds rfl (fun _ => rfl) (fun _ => rfl)) (by rw [List.length_map]; omega) rdne).wk (U := dat K (dL (res.map (·.1)))) fun v H' ⟨l, ⟨hl1, hl2, hl3⟩, hv⟩ => by
          rw [← WM.sorted_uniq hres.srt (WM.perm_nd hl1 (WM.llt_nodup hres.srt) hl2) hl3]
          exact hv).ed)).to ?_).to rfl) (fun z => by cases z) fun _ H7 e7 => ?_
      · have : PyData.eqv (dL (res.map (·.1))) (dL (res.map (·.1))) = true := by
          have : ∀ l : List (List Int), PyData.eqvAll (l.map dV) (l.map dV) = true := fun l => by
            induction l with
            | nil => simp [PyData.eqvAll]
            | cons x l ih => rw [List.map_cons]; simp only [PyData.eqvAll]; rw [ih, eqv_dV]; simp
          unfold PyData.eqv
          exact this _
        rw [this]
        rfl
      dsimp only [tNext]
      have ex47 := hide_ex (M := M) (e46.trans e7)
      have hfound7 := (tyL K (res.map (tyLeaf K m n))).up (hide_ex (M := M) e7) hfound
      have hok7 := hok6.ex e7
      refine s_forP hok7 (ei_l (K := K) (src := res) (ty := tyLeaf K m n) (eg_var rfl hfound7)) (fun i σ' H' => ∃ y12, σ' = [some (.ref b), some (.int (m : Int)), some (.int (n : Int)), some (.int (st : Int)), some x4, some v5, some v6, some v7, some (.int (mk : Int)), some v9, some v10, some v11, y12]) (fun H1 e1 => ⟨_, rfl⟩) ?_ ?_
      · rintro H8 i lf xl σ' H' H9 e8 e8' hi ⟨y12, rfl⟩ e9 hxl
        dsimp only
        have hl := List.mem_of_getElem? hi
        have eA := (e8.trans e8').trans e9
        have exA := ex47.trans (hide_ex (M := M) eA)
        have hgl : GreatLeaf m n st ws L b0 p mk lf := ⟨hwin, by omega, hp, hLT, hb0, hres.cos lf hl, fun x hx => by
          have h1 := (hres.mem lf hl x).mp hx
          refine ⟨?_, h1.2⟩
          have h2 := ((WM.mem_red hm0 hT hb0 x).mp h1.1).2
          rw [hTs] at h2
          exact (hLs _).mpr h2⟩
        refine sd_if (b := false) (hok7.ex eA) ((et_not (b := true) (et_B ((eg_call (T := tB K true) (R := R_law_great_leaf_right K) (ega_d (ed_varI (K := K) rfl) (ega_d (ed_var (K := K) (d := dWins ws) rfl (h44.mono exA)) (ega_d (ed_varI (K := K) rfl) (ega_d (ed_var (K := K) (d := dPlan p) rfl (Dp.mono h9 exA)) (ega_d (ed_tup (K := K) (ds := [dV b0, dL (L.map Prod.snd)]) (by simp) (ea_cons (ed_var rfl (h64.mono exA)) (ea_one (ed_var rfl (h74.mono exA))))) (ega_cons (eg_var (T := tyLeaf K m n lf) rfl hxl) ega_nil)))))) ⟨m, n, st, ws, L, b0, p, mk, lf, rfl, hm, hm2, hn, hn2, hgl, rfl⟩).ed))).to rfl) (fun z => by cases z) fun _ HA eB => ⟨(e8'.trans e9).trans eB, _, rfl⟩
      · rintro σ' H' e8 ⟨y12, rfl⟩
        dsimp only
        have hfound8 := (tyL K (res.map (tyLeaf K m n))).up (hide_ex (M := M) e8) hfound7
        have h78 := h74.mono (ex47.trans (hide_ex (M := M) e8))
        have eT := (e46.trans e7).trans e8
        have hsum := WM.sum_sizes hm0 (WM.Cos.of hm0 hT hb0) hres
        have hsame := WM.sz_same hm0 hT hLT fun f => (hTs f).trans (hLs f).symm
        refine sd_ret (K := K) (d := .bool true) (hok7.ex e8) ((ed_eqI (ed_sum (ns := res.map fun lf => WM.sz m lf.2.1) ((ed_lcA (K := K) (src := res) (ty := tyLeaf K m n) (ei_l (eg_var rfl hfound8)) (by omega) (fun lf => .int (WM.sz m lf.2.1)) fun M' H6 x lf i ex hM' hi hx => turn_name rfl et_yes fun _ => (eg_meth (R := R_Coset_size K) (T := tI K (WM.sz m lf.2.1)) (eg_ixU (K := K) (Ts := [tV K lf.1, tyCoset K m n lf.2.1 lf.2.2]) rfl (eg_var rfl hx) ed_int) rfl ega_nil ⟨m, n, lf.2.1, lf.2.2, rfl, by omega, by omega, by omega, (hres.cos lf (List.mem_of_getElem? hi)).tab, rfl⟩)).to (by rw [List.map_map]; rfl))) (eg_call (R := R_law_size K) (T := tI K (WM.sz m L)) (ega_d (ed_varI (K := K) rfl) (ega_d (ed_var (K := K) (d := dL (L.map Prod.snd)) rfl h78) ega_nil)) ⟨m, n, L, rfl, hm0, by omega, by omega, hLT.piv.ok, rfl⟩).ed).bool (by rw [hsum, hsame]; simp)) fun v H9 e9 h => hq v H9 (f14.gex (eT.trans e9)) (B4.up (eT.trans e9)) h)
end
end WL
end
section
set_option Elab.async false
set_option linter.all false
set_option maxRecDepth 100000
set_option maxHeartbeats 4000000
/-! D35: law. -/
namespace WL
open PySem PySem.Spec PyProof.Rows L2 Evl HeadW
abbrev N_law : List Str := ["_law_script", "_law_bag_here"]
theorem sc_law : FnScope N_law ["_law_script"] d_law.scope := ⟨rfl, rfl, rfl, by decide +kernel, rfl, by decide +kernel, by decide +kernel⟩
theorem bi_law (kV doc pm : Value) (an : Option Addr) (cdv ct : Value) (us : List Value) (hl : us.length = 1) : bindArgs (PySem.W.fnOf d_law.name d_law.qual d_law.params d_law.body d_law.scope .none kV doc pm an cdv ct) ⟨us, []⟩ = pure ((["_law_script"] : List Str).zip us) := by
  match us, hl with
  | [_], _ => rfl

/-- what is asked of the law: True, whatever it leaves behind -/
def spL (K : PySem.W.Frag) : Sp := fun vs H Q _ => ∃ (a : Addr) (ns : List Int), vs = [.ref a] ∧ SqL K H a (ns.map V.int) ∧ ns.length ≤ 63 ∧ ∀ H', Q (.bl true) H'
theorem fn_law {K : PySem.W.Frag} (S : Says K) : ∃ fd : FuncData, (∀ (s : Shared) (u : Value), BindsTo s fd ⟨[u], []⟩ [("_law_script", u)]) ∧ ∀ (w : World) (mg : Str → Option Value) (base : Heap), Glb w K mg base → FnG PP w K mg base 17 (He.ga K "law") fd ["_law_script"] (spL K) := by
  obtain ⟨fd, F⟩ := S.d.def_ 81 (d := d_law) rfl
  have hd : d_law.dvs K = [] := rfl
  have hx : d_law.at_ = (("law" : Str), (none : Option Str)) := rfl
  rw [hd] at F
  rw [hx] at F
  obtain ⟨oc, od, dV, kV, doc, pm, an, cdv, ct, osl, rfl, lk, hcd, hdV, _⟩ := F.ex
  have hdV : dV = .none := by
    rcases hdV with h | h
    · exact h.2
    · exact absurd rfl h.1
  subst hdV
  refine ⟨_, fun s u => .of_eq (bi_law kV doc pm an cdv ct [u] rfl), fun w mg base G => fn_ofG (k := 16) lk hcd sc_law (fun vs H Q E ⟨_, _, h, _⟩ => by rw [h]; rfl) fun A outer s H vs Q E hr hgd hsp => ?_⟩
  obtain ⟨a, ns, rfl, hs, hn, hq⟩ := hsp
  have h1 : Dp K (hide [] H) (.ref a) (.list (ns.map .int)) := by
    rw [hide_nil]
    exact .lst hs (dpAll_ints ns)
  have main : ∃ t, PSs (cxOf C8.CX0 PP w K mg base N_law d_law.qual d_law.scope (He.ga K "law") cdv A outer s H E).nox d_law.body t ∧ t { nx := fun _ H' => Q .non H', rt := Q } (start N_law [.ref a]) H := by
    refine ⟨_, (pss_cons (ps_set (i := 1) sc_law.nd rfl (by first | exact Or.inl rfl | exact Or.inr rfl) (C8.pe_c (cal_law_bag G) hr (by decide) (by rfl) (pa_cons (pv 0) pa_nil)))
      (pss_one (ps_ret (pe_and (pe_cG (calG_law_small_right G) hr hgd (by decide) (by rfl) (pa_cons (pv 1) pa_nil)) (pe_one (C8.pe_c (cal_law_great_right G) hr (by decide) (by rfl) (pa_cons (pv 1) pa_nil))))))), ?_⟩
    refine sg_set (MOk.nil _) (eg_call (R := R_law_bag K) (ega_d (ed_var rfl h1) ega_nil) ⟨ns, rfl, hn, rfl⟩) fun vb H1 e1 ⟨b, c, eb, hB⟩ => ?_
    subst eb
    rw [hide_nil] at hB
    dsimp only
    obtain ⟨ia, it, ii, ic, hB'⟩ := id hB
    have hM : MOk [b] H1 := fun x hx => by
      rw [List.mem_singleton.mp hx, hB'.at_b]
      exact Option.some_ne_none _
    have hN : NT [b] H1 := fun x hx xs e => by
      rw [List.mem_singleton.mp hx, hB'.at_b] at e
      cases e
    refine eb_callBM (c := c) (T := tB K true) (R := R_law_small_right K) hN hM (by simp) rfl eba_nil ⟨rfl, rfl⟩ H1 (Fr.refl1 hM) hB _ fun v H2 f2 B2 hv => ?_
    cases dp_bl hv
    refine ⟨true, rfl, iteT ?_⟩
    exact eb_call (c := c) (T := tB K true) (R := R_law_great_right K) (M := [b]) (by simp) rfl eba_nil ⟨rfl, rfl⟩ H2 (Fr.refl1 f2.ok) B2 _ fun v H3 f3 B3 hv => by
      cases dp_bl hv
      exact hq H3
  obtain ⟨t, m1, m2⟩ := main
  exact ⟨t, m1.nox, m2⟩
end WL
end
section
set_option Elab.async false
set_option linter.all false
set_option maxRecDepth 100000
set_option maxHeartbeats 4000000
/-! HeadC: the law's call, nothing being shown around it; the end. -/
namespace WL
open PySem PySem.Spec PyProof.Rows L2 Evl HeadW
/-- the script, when no object of the module is it -/
def onlyH (a : Addr) (vs : List Value) (ns : List Int) : Hp := fun x => if x = a then some (.frz { cls := .type "list", data := .seq vs.toArray } (.lst (ns.map V.int))) else none
theorem law_callG {w : World} {K : PySem.W.Frag} {mg mb : Str → Option Value} {k : Nat} {fa a : Addr} {fd : FuncData} {x : Str} {sp : Sp} {s1 : Shared} {vs : List Value} {ns : List Int}
    (kin : K.In s1.heap) (hmg : s1.heap.Ns mainGlobals mg) (hmb : s1.heap.Ns builtinsNs mb) (boot : ∀ x : Str, x ≠ "__name__" → mb x = bootBuiltins x) (lim : s1.heap.NoLimit) (gens : s1.gens = #[])
    (script : s1.heap.get? a = some { cls := .type "list", data := .seq vs.toArray }) (hints : IntsAre vs ns) (short : ns.length ≤ sizeLine) (room : Room k callerA)
    (F : ∀ base : Heap, K.In base → base.Ns mainGlobals mg → FnG PP w K mg base k fa fd [x] sp) (bnd : ∀ (s : Shared) (u : Value), BindsTo s fd ⟨[u], []⟩ [(x, u)])
    (prom : ∀ H : Hp, SqL K H a (ns.map V.int) → sp [.ref a] H (fun v _ => v = .bl true) C8.E0) :
    codeAny (model PP w) callerA (.call (.ref fa) ⟨[.ref a], []⟩) (fun r s2 => r = .ok (.ret (.bool true)) ∧ OldK s1.heap s2.heap ∧ s2.os = s1.os ∧ AllBare s2.gens) s1 := by
  have rel := vals_ints hints
  have go : ∀ H : Hp, Only H → SqL K H a (ns.map V.int) → HOk PP w H s1.heap → (∀ y, H y ≠ none → y = a) → (H a ≠ none → K.lookup a = none) →
      codeAny (model PP w) callerA (.call (.ref fa) ⟨[.ref a], []⟩) (fun r s2 => r = .ok (.ret (.bool true)) ∧ OldK s1.heap s2.heap ∧ s2.os = s1.os ∧ AllBare s2.gens) s1 := by
    intro H only sq hok alone notK
    have low : ∀ {y : Addr} {o : Obj}, s1.heap.get? y = some o → H y = none → (hidT s1.heap H).get? y = some o := fun z n => hidT_get z n
    have dictFree : ∀ {y : Addr} {o : Obj} {es : Array DictEntry} {ep : Nat}, s1.heap.get? y = some o → o.data = .dict es ep → H y = none := by
      intro y o es ep z hd
      by_cases q : H y = none
      · exact q
      · have e := alone y q
        rw [e, script] at z
        injection z with z
        rw [← z] at hd
        cases hd
    have nsLow : ∀ {y : Addr} {m : Str → Option Value}, s1.heap.Ns y m → (hidT s1.heap H).Ns y m := by
      rintro y m ⟨o, es, ep, z, hd, r⟩
      exact ⟨o, es, ep, low z (dictFree z hd), hd, r⟩
    have kLow : K.In (hidT s1.heap H) := by
      intro y o z
      refine low (kin y o z) ?_
      by_cases q : H y = none
      · exact q
      · have e := alone y q
        rw [e] at z q
        rw [notK q] at z
        cases z
    have md : Mod K mg (hidT s1.heap H) := by
      obtain ⟨mc, l1, l2⟩ := lim
      exact ⟨kLow, nsLow hmg, ⟨mb, nsLow hmb, boot⟩, mc, nsLow l1, l2⟩
    have env : Env0 PP w K mg (hidT s1.heap H) callerA [] s1 H := ⟨rfl, md, fun y o z => of_hidT z, Nat.le_of_eq (hidT_size _ _), trivial, (fun y hy => by cases hy), hok, .of_eq gens⟩
    refine codeAny_mono ((F _ kLow (nsLow hmg)).run callerA [] s1 H ⟨[.ref a], []⟩ [.ref a] [.ref a] _ C8.E0 room rfl env (bnd s1 (.ref a)) (.cons rfl .nil) (prom H sq)) fun r s2 out => ?_
    match r, out with
    | .error e, out => exact out.elim
    | .ok .next, out => exact out.elim
    | .ok .brk, out => exact out.elim
    | .ok .cont, out => exact out.elim
    | .ok (.ret u), ⟨v, H2, os, bare, un, hok2, rv, q⟩ =>
      have q : v = .bl true := q
      subst q
      have rv : u = Value.bool true := rv
      subst rv
      refine ⟨rfl, OldK.of_keep fun y o z => ?_, os, bare⟩
      rcases only y with n | ⟨ob, xs, n⟩
      · exact un.keep y o z n (fun hm => by cases hm) (by simp)
      · have z1 := (hok y _ n).1
        have z2 := (hok2 y _ (un.frzs y ob _ n)).1
        rw [z] at z1
        injection z1 with z1
        rw [z1]
        exact z2
  by_cases hk : K.lookup a = none
  · have none_at : ∀ y, y ≠ a → onlyH a vs ns y = none := fun y h => if_neg h
    have some_at : onlyH a vs ns a = some (.frz { cls := .type "list", data := .seq vs.toArray } (.lst (ns.map V.int))) := if_pos rfl
    refine go (onlyH a vs ns) (fun y => ?_) (.inl (.inr ⟨_, some_at⟩)) (fun y u z => ?_) (fun y h => ?_) fun _ => hk
    · by_cases h : y = a
      · subst h; exact .inr ⟨_, _, some_at⟩
      · exact .inl (none_at y h)
    · by_cases h : y = a
      · subst h
        rw [some_at] at z
        injection z with z
        subst z
        exact ⟨script, by rw [List.length_map]; exact short, vs, _, rel, script⟩
      · rw [none_at y h] at z; cases z
    · by_cases q : y = a
      · exact q
      · exact absurd (none_at y q) h
  · obtain ⟨o, ho⟩ := Option.ne_none_iff_exists'.mp hk
    have z := kin a o ho
    rw [script] at z
    injection z with z
    subst z
    refine go (fun _ => none) (fun _ => .inl rfl) (.inr ⟨_, vs.toArray, _, ho, rfl, rfl, rfl, by rw [List.size_toArray, hints.length]; exact short, by simpa using rel⟩) (fun y u z => by cases z) (fun y h => absurd rfl h) fun h => absurd rfl h
theorem roomA : Room 17 callerA := by
  first
  | exact ⟨rfl, by decide, by decide⟩
  | exact ⟨rfl, by show 0 + 1 + claimMargin + 3 * 17 + 5 < _; decide, by decide⟩
theorem hcG : PySem.W.WalkO (PySem.W.view R.prog [91]) names (PySem.W.XL (PySem.W.view R.prog [91]) []) hk.says R.toRowW dLaw [] fun f vs => PySem.call f vs := by
  refine Att.attach_call (l := PySem.Challenge.rw_shywheels_k66_whole_plans_played) (n := 63) rfl h11 fun w s₀ s₁ mg mb fa o pm cd doc a vs ns G Y ho hd hcd hmg hobj hints hlen hg => ?_
  obtain ⟨K, KX, c⟩ := Y
  have hmg' : mg ("law" : PySem.Str) = some (.ref fa) := by
    rw [← h10]
    exact hmg
  have hga : mg ("law" : PySem.Str) = some (.ref (He.ga K "law")) := He.glo_ok KX G.T.g (c.d.fact 104 (f := .glo "law") h12)
  have ef : fa = He.ga K "law" := by
    have := hmg'.symm.trans hga
    injection this with this
    injection this
  subst ef
  obtain ⟨fd, hb, hF⟩ := fn_law c
  exact law_callG KX G.T.g G.T.b G.T.builtins G.T.nolimit hg hobj hints (Nat.le_trans hlen (by decide)) roomA (fun base kb nb => hF w mg base ⟨c, kb, nb⟩) hb fun H hS => ⟨a, ns, rfl, hS, hlen, fun _ => rfl⟩
theorem hrowG (said : R.wellSaid = true) : R.Holds :=
  HandSHeadRun.head_any (r := R) (q := PySem.W.view R.prog [91]) (H := hk) (ob := ob) (M := 8000) (loose := names) (d := dLaw) (kwd := []) ob_eq h2 h3 run h4 h5 h6 (by rfl) said h8 h9 hw hcG
end WL
end
open PySem PySem.W PySem.Calls PyProof.Rows
theorem PySem.Challenge.cw_shywheels_k66_whole_plans_played_holds : PySem.Challenge.rw_shywheels_k66_whole_plans_played.Holds := by
  w_on; o_law
  exact WL.hrowG (by assumption)
