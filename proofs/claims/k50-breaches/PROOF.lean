import PyProof.Rows.All
import Wide.All
import OpenK.AllK
import Wide.FinOn
import HandS.ForMost
import HandS.ForExc
import HandS.IsInst
import HandS.Deep
import HandS.DictTup
import HandS.Defaults
import HandS.CallLocal
import HandS.CallSlots
import HandS.Style
import HandS.Conv
import HandS.TupAny
import HandS.TupMul
import HandS.Walk
import HandS.Evl
import HandS.Text
import HandS.Codes
import HandS.EndTab
import HandS.Strs
import HandS.Set
import PyProof.ReprRoads
import KE.GoesEnum
import KE.GoesMore
import KE.KDictPairs
import KE.KDictDisplayH
import HandS.ExcSuper
import HandS.ExcBuiltin
import HandS.ExcInit
import KE.KExcSuper
import KE.KSuper
import HandS.WordsExc
import HandS.TryOnly
import OpenK.KMore
import PyProof.Rows.SetFrom
import HandS.Lambda
import HandS.ExcField
import PyProof.Rows.RegFStrParts
import PyProof.ExcBaseAll.Exception
import PyProof.ExcBaseAll.LookupError
import KE.KExcInit
import PySem.Challenge.RW_eitheronce_k50_whole_breaches_against_li
section
set_option linter.all false
/-! effects as lists of numbers: what is done first stands left -/
namespace EO
abbrev Eff := List Nat
def ap (e : Eff) (x : Nat) : Nat := e.getD x 0
def thn (e g : Eff) : Eff := e.map fun x => ap g x
def idE (n : Nat) : Eff := List.range n
structure Ok (n : Nat) (e : Eff) : Prop where
  len : e.length = n
  lt : ∀ x ∈ e, x < n

theorem ap_get {e : Eff} {x : Nat} (h : x < e.length) : e[x]? = some (ap e x) := by
  simp [ap, List.getElem?_eq_getElem h]
theorem Ok.ap_lt {n : Nat} {e : Eff} (o : Ok n e) {x : Nat} (h : x < n) : ap e x < n := by
  have h' : x < e.length := by rw [o.len]; exact h
  exact o.lt _ (List.mem_of_getElem? (ap_get h'))
theorem ap_thn {n : Nat} {e g : Eff} (o : Ok n e) {x : Nat} (h : x < n) : ap (thn e g) x = ap g (ap e x) := by
  have h' : x < e.length := by rw [o.len]; exact h
  simp [ap, thn, List.getElem?_eq_getElem h']
theorem ap_id {n x : Nat} (h : x < n) : ap (idE n) x = x := by
  simp [ap, idE, h]
theorem ok_id (n : Nat) : Ok n (idE n) := ⟨by simp [idE], fun x hx => by simpa [idE] using hx⟩
theorem ok_thn {n : Nat} {e g : Eff} (o : Ok n e) (p : Ok n g) : Ok n (thn e g) := by
  refine ⟨by simp [thn, o.len], fun x hx => ?_⟩
  obtain ⟨y, hy, rfl⟩ := List.mem_map.mp hx
  exact p.ap_lt (o.lt y hy)
theorem Ok.ext {n : Nat} {e g : Eff} (o : Ok n e) (p : Ok n g) (h : ∀ x, x < n → ap e x = ap g x) : e = g := by
  apply List.ext_getElem?
  intro i
  by_cases hi : i < n
  · have h1 : i < e.length := by rw [o.len]; exact hi
    have h2 : i < g.length := by rw [p.len]; exact hi
    rw [ap_get h1, ap_get h2, h i hi]
  · rw [List.getElem?_eq_none (by rw [o.len]; omega), List.getElem?_eq_none (by rw [p.len]; omega)]
theorem thn_assoc {n : Nat} {e g h : Eff} (o : Ok n e) (p : Ok n g) (q : Ok n h) : thn (thn e g) h = thn e (thn g h) := by
  refine (ok_thn (ok_thn o p) q).ext (ok_thn o (ok_thn p q)) fun x hx => ?_
  rw [ap_thn (ok_thn o p) hx, ap_thn o hx, ap_thn o hx, ap_thn p (o.ap_lt hx)]
theorem thn_id {n : Nat} {e : Eff} (o : Ok n e) : thn e (idE n) = e := by
  refine (ok_thn o (ok_id n)).ext o fun x hx => ?_
  rw [ap_thn o hx, ap_id (o.ap_lt hx)]
theorem id_thn {n : Nat} {e : Eff} (o : Ok n e) : thn (idE n) e = e := by
  refine (ok_thn (ok_id n) o).ext o fun x hx => ?_
  rw [ap_thn (ok_id n) hx, ap_id hx]
/-! powers -/
def pw (n : Nat) (f : Eff) : Nat → Eff
  | 0 => idE n
  | k + 1 => thn (pw n f k) f
theorem ok_pw {n : Nat} {f : Eff} (o : Ok n f) : ∀ k, Ok n (pw n f k)
  | 0 => ok_id n
  | k + 1 => ok_thn (ok_pw o k) o
theorem pw_add {n : Nat} {f : Eff} (o : Ok n f) (a : Nat) : ∀ b, thn (pw n f a) (pw n f b) = pw n f (a + b)
  | 0 => thn_id (ok_pw o a)
  | b + 1 => by
    show thn (pw n f a) (thn (pw n f b) f) = thn (pw n f (a + b)) f
    rw [← pw_add o a b, thn_assoc (ok_pw o a) (ok_pw o b) o]
theorem pw_one {n : Nat} {f : Eff} (o : Ok n f) : pw n f 1 = f := id_thn o
def sq (f : Eff) : Eff := thn f f
def p60 (f : Eff) : Eff := let f2 := sq f; let f3 := thn f2 f; let f5 := thn f3 f2; let f15 := thn (sq f5) f5; sq (sq f15)
theorem p60_pw {n : Nat} {f : Eff} (o : Ok n f) : p60 f = pw n f 60 := by
  have e1 := pw_one o
  have e2 : sq f = pw n f 2 := by unfold sq; conv => lhs; rw [← e1]
                                  exact pw_add o 1 1
  have e3 : thn (sq f) f = pw n f 3 := by rw [e2]; rfl
  have e5 : thn (thn (sq f) f) (sq f) = pw n f 5 := by rw [e3, e2]; exact pw_add o 3 2
  have e10 : sq (thn (thn (sq f) f) (sq f)) = pw n f 10 := by rw [e5]; exact pw_add o 5 5
  have e15 : thn (sq (thn (thn (sq f) f) (sq f))) (thn (thn (sq f) f) (sq f)) = pw n f 15 := by rw [e10, e5]; exact pw_add o 10 5
  show sq (sq (thn (sq (thn (thn (sq f) f) (sq f))) (thn (thn (sq f) f) (sq f)))) = _
  rw [e15]
  have e30 : sq (pw n f 15) = pw n f 30 := pw_add o 15 15
  rw [e30]
  exact pw_add o 30 30
/-! all effects -/
def tups (n : Nat) : Nat → List (List Nat)
  | 0 => [[]]
  | k + 1 => (List.range n).flatMap fun x => (tups n k).map (x :: ·)
theorem mem_tups {n : Nat} : ∀ {k : Nat} {l : List Nat}, l.length = k → (∀ x ∈ l, x < n) → l ∈ tups n k
  | 0, [], _, _ => by simp [tups]
  | 0, _ :: _, h, _ => by simp at h
  | _ + 1, [], h, _ => by simp at h
  | k + 1, x :: r, h, hx => by
    have h1 := mem_tups (k := k) (l := r) (by simpa using h) (fun y hy => hx y (List.mem_cons_of_mem _ hy))
    have h2 := hx x (List.mem_cons_self ..)
    simp only [tups, List.mem_flatMap, List.mem_range, List.mem_map]
    exact ⟨x, h2, r, h1, rfl⟩
theorem Ok.mem {n : Nat} {e : Eff} (o : Ok n e) : e ∈ tups n n := mem_tups o.len o.lt
theorem all_of {n : Nat} {p : Eff → Bool} (h : (tups n n).all p = true) {e : Eff} (o : Ok n e) : p e = true := List.all_eq_true.mp h e o.mem
def idem (f : Eff) : Bool := let e := p60 f; thn e e == e
theorem idem2 : (tups 2 2).all idem = true := by decide +kernel
theorem idem3 : (tups 3 3).all idem = true := by decide +kernel
theorem idem4 : (tups 4 4).all idem = true := by decide +kernel
theorem idem5 : (tups 5 5).all idem = true := by decide +kernel
theorem idem_ok {n : Nat} (h2 : 2 ≤ n) (h5 : n ≤ 5) {f : Eff} (o : Ok n f) : thn (p60 f) (p60 f) = p60 f := by
  have key : idem f = true := by
    rcases (by omega : n = 2 ∨ n = 3 ∨ n = 4 ∨ n = 5) with rfl | rfl | rfl | rfl
    · exact all_of idem2 o
    · exact all_of idem3 o
    · exact all_of idem4 o
    · exact all_of idem5 o
  exact beq_iff_eq.mp key
end EO
end
section
set_option linter.all false
/-! unbreakable monoids of effects -/
namespace EO
structure Mon (n : Nat) (S : Eff → Prop) : Prop where
  ok : ∀ e, S e → Ok n e
  one : S (idE n)
  mul : ∀ e g, S e → S g → S (thn e g)
  prim : ∀ R : Nat → Nat → Prop, (∀ a, R a a) → (∀ a b, R a b → R b a) → (∀ a b c, R a b → R b c → R a c) →
    (∀ e, S e → ∀ a b, a < n → b < n → R a b → R (ap e a) (ap e b)) → (∃ x y, x < n ∧ y < n ∧ x ≠ y ∧ R x y) → ∀ a b, a < n → b < n → R a b
/-- rows that exchange at one state do at all -/
def Hon (n : Nat) (S : Eff → Prop) : Prop := ∀ f g, S f → S g → (∃ x, x < n ∧ ap g (ap f x) = ap f (ap g x)) → thn f g = thn g f
/-- those that do something exchange just if they leave the same alone -/
def NoB (n : Nat) (S : Eff → Prop) : Prop := ∀ f g, S f → S g → f ≠ idE n → g ≠ idE n → (thn f g = thn g f ↔ ∀ x, x < n → (ap f x = x ↔ ap g x = x))
def Surj (n : Nat) (f : Eff) : Prop := ∀ y, y < n → ∃ x, x < n ∧ ap f x = y
def Cst (n : Nat) (f : Eff) : Prop := ∃ c, c < n ∧ ∀ x, x < n → ap f x = c
/-- what is idempotent is nothing or a constant -/
def IdC (n : Nat) (S : Eff → Prop) : Prop := ∀ e, S e → thn e e = e → e ≠ idE n → Cst n e
section
variable {n : Nat} {S : Eff → Prop}
theorem Mon.pw (M : Mon n S) {f : Eff} (h : S f) : ∀ k, S (pw n f k)
  | 0 => M.one
  | k + 1 => M.mul _ _ (M.pw h k) h
theorem Mon.p60 (M : Mon n S) {f : Eff} (h : S f) : S (p60 f) := by rw [p60_pw (M.ok _ h)]; exact M.pw h 60
theorem Mon.primT (M : Mon n S) (T : Nat → Nat → Prop) (r : ∀ a, T a a) (s : ∀ a b, T a b → T b a) (t : ∀ a b c, T a b → T b c → T a c) {x y : Nat} (hx : x < n) (hy : y < n) (ne : x ≠ y)
    (h : ∀ g, S g → T (ap g x) (ap g y)) : ∀ a b, a < n → b < n → T a b := by
  intro a b ha hb
  have key := M.prim (fun a b => ∀ g, S g → T (ap g a) (ap g b)) (fun a g _ => r _) (fun a b q g hg => s _ _ (q g hg)) (fun a b c p q g hg => t _ _ _ (p g hg) (q g hg))
    (fun e he a b ha hb q g hg => by
      have z := q (thn e g) (M.mul _ _ he hg)
      rw [ap_thn (M.ok _ he) ha, ap_thn (M.ok _ he) hb] at z
      exact z) ⟨x, y, hx, hy, ne, h⟩ a b ha hb
  have q := key (idE n) M.one
  rw [ap_id ha, ap_id hb] at q
  exact q
theorem ne_id {f : Eff} (o : Ok n f) (h : f ≠ idE n) : ∃ z, z < n ∧ ap f z ≠ z := by
  refine Classical.byContradiction fun hn => h (o.ext (ok_id n) fun x hx => ?_)
  rw [ap_id hx]
  exact Classical.byContradiction fun q => hn ⟨x, hx, q⟩
theorem eq_of_ap {f g : Eff} (o : Ok n f) (p : Ok n g) (h : ∀ x, x < n → ap g (ap f x) = ap f (ap g x)) : thn f g = thn g f :=
  (ok_thn o p).ext (ok_thn p o) fun x hx => by rw [ap_thn o hx, ap_thn p hx, h x hx]
theorem ap_of_eq {f g : Eff} (o : Ok n f) (p : Ok n g) (h : thn f g = thn g f) {x : Nat} (hx : x < n) : ap g (ap f x) = ap f (ap g x) := by
  rw [← ap_thn o hx, ← ap_thn p hx, h]
/-- honest: one state alone at most is left alone -/
theorem Mon.fix1 (M : Mon n S) (h : Hon n S) {f : Eff} (hf : S f) (ne : f ≠ idE n) {x y : Nat} (hx : x < n) (hy : y < n) (ex : ap f x = x) (ey : ap f y = y) : x = y := by
  refine Classical.byContradiction fun nxy => ?_
  obtain ⟨z, hz, ez⟩ := ne_id (M.ok _ hf) ne
  have key := M.primT (fun a b => ap f a = a ↔ ap f b = b) (fun _ => Iff.rfl) (fun _ _ q => q.symm) (fun _ _ _ p q => p.trans q) hx hy nxy (fun g hg => by
    have one : ∀ {x y : Nat}, x < n → y < n → ap f x = x → ap f y = y → ap f (ap g x) = ap g x → ap f (ap g y) = ap g y := fun {x y} hx hy ex ey q => by
      have c := h g f hg hf ⟨x, hx, by rw [q, ex]⟩
      have z := ap_of_eq (M.ok _ hg) (M.ok _ hf) c hy
      rw [z, ey]
    exact ⟨one hx hy ex ey, one hy hx ey ex⟩) x z hx hz
  exact ez (key.mp ex)
theorem cst_of {e : Eff} (o : Ok n e) (h0 : 0 < n) (i : thn e e = e) (u : ∀ x y, x < n → y < n → ap e x = x → ap e y = y → x = y) : Cst n e := by
  have fx : ∀ x, x < n → ap e (ap e x) = ap e x := fun x hx => by
    have q := ap_thn (g := e) o hx
    rw [i] at q
    exact q.symm
  exact ⟨ap e 0, o.ap_lt h0, fun x hx => u _ _ (o.ap_lt hx) (o.ap_lt h0) (fx x hx) (fx 0 h0)⟩
theorem Mon.idC (M : Mon n S) (h0 : 0 < n) (h : Hon n S) : IdC n S := fun e he i ne => cst_of (M.ok _ he) h0 i fun x y hx hy ex ey => M.fix1 h he ne hx hy ex ey
/-! onto -/
theorem surj_id : Surj n (idE n) := fun y hy => ⟨y, hy, ap_id hy⟩
theorem surj_thn {e g : Eff} (o : Ok n e) (p : Ok n g) (a : Surj n e) (b : Surj n g) : Surj n (thn e g) := fun y hy => by
  obtain ⟨z, hz, e1⟩ := b y hy
  obtain ⟨x, hx, e2⟩ := a z hz
  exact ⟨x, hx, by rw [ap_thn o hx, e2, e1]⟩
theorem surj_last {e g : Eff} (o : Ok n e) (a : Surj n (thn e g)) : Surj n g := fun y hy => by
  obtain ⟨x, hx, e1⟩ := a y hy
  rw [ap_thn o hx] at e1
  exact ⟨_, o.ap_lt hx, e1⟩
theorem surj_pw {f : Eff} (o : Ok n f) (a : Surj n f) : ∀ k, Surj n (EO.pw n f k)
  | 0 => surj_id
  | k + 1 => surj_thn (ok_pw o k) o (surj_pw o a k) a
theorem surj_idem {e : Eff} (o : Ok n e) (i : thn e e = e) (a : Surj n e) : e = idE n := o.ext (ok_id n) fun x hx => by
  obtain ⟨y, hy, q⟩ := a x hx
  have z := ap_thn (g := e) o hy
  rw [i, q] at z
  rw [ap_id hx]
  exact z.symm
theorem surj_iff (h2 : 2 ≤ n) (h5 : n ≤ 5) {f : Eff} (o : Ok n f) : Surj n f ↔ p60 f = idE n := by
  constructor
  · intro a
    have ok := ok_pw o 60
    rw [← p60_pw o] at ok
    refine surj_idem ok (idem_ok h2 h5 o) ?_
    rw [p60_pw o]
    exact surj_pw o a 60
  · intro e
    have q : Surj n (thn (EO.pw n f 59) f) := by
      have z : thn (EO.pw n f 59) f = p60 f := by rw [p60_pw o]; rfl
      rw [z, e]
      exact surj_id
    exact surj_last (ok_pw o 59) q
/-! what is not onto is a constant -/
def Cov (n : Nat) (A : Nat → Prop) (h : Eff) : Prop := ∀ y, A y → ∃ z, z < n ∧ A z ∧ ap h z = y
theorem cov_pw {A : Nat → Prop} {h : Eff} (o : Ok n h) (hA : ∀ y, A y → y < n) (c : Cov n A h) : ∀ k, Cov n A (EO.pw n h k)
  | 0 => fun y hy => ⟨y, hA y hy, hy, ap_id (hA y hy)⟩
  | k + 1 => fun y hy => by
    obtain ⟨z, hz, az, e1⟩ := c y hy
    obtain ⟨x, hx, ax, e2⟩ := cov_pw o hA c k z az
    exact ⟨x, hx, ax, by rw [show EO.pw n h (k + 1) = thn (EO.pw n h k) h from rfl, ap_thn (ok_pw o k) hx, e2, e1]⟩
def Im (n : Nat) (t : Eff) (y : Nat) : Prop := ∃ x, x < n ∧ ap t x = y
open Classical in
noncomputable def rank (n : Nat) (t : Eff) : Nat := ((List.range n).filter fun y => decide (Im n t y)).length
theorem filter_le {p q : Nat → Bool} (h : ∀ y, p y = true → q y = true) : ∀ l : List Nat, (l.filter p).length ≤ (l.filter q).length
  | [] => Nat.le_refl _
  | x :: r => by
    have ih := filter_le h r
    by_cases hp : p x = true
    · rw [List.filter_cons_of_pos hp, List.filter_cons_of_pos (h x hp)]
      simpa using ih
    · rw [List.filter_cons_of_neg hp]
      by_cases hq : q x = true
      · rw [List.filter_cons_of_pos hq, List.length_cons]; omega
      · rw [List.filter_cons_of_neg hq]; exact ih
theorem filter_lt {p q : Nat → Bool} (h : ∀ y, p y = true → q y = true) {z : Nat} (hp : ¬ p z = true) (hq : q z = true) : ∀ l : List Nat, z ∈ l → (l.filter p).length < (l.filter q).length
  | [], hz => by simp at hz
  | x :: r, hz => by
    rcases List.mem_cons.mp hz with rfl | hz
    · rw [List.filter_cons_of_neg hp, List.filter_cons_of_pos hq, List.length_cons]
      have := filter_le h r
      omega
    · have ih := filter_lt h hp hq r hz
      by_cases px : p x = true
      · rw [List.filter_cons_of_pos px, List.filter_cons_of_pos (h x px)]
        simpa using ih
      · rw [List.filter_cons_of_neg px]
        by_cases qx : q x = true
        · rw [List.filter_cons_of_pos qx, List.length_cons]; omega
        · rw [List.filter_cons_of_neg qx]; exact ih
open Classical in
theorem rank_lt {t u : Eff} (h : ∀ y, Im n u y → Im n t y) {z : Nat} (hz : z < n) (h1 : ¬ Im n u z) (h2 : Im n t z) : rank n u < rank n t := by
  unfold rank
  refine filter_lt (z := z) (fun y hy => ?_) ?_ ?_ _ (List.mem_range.mpr hz)
  · exact decide_eq_true (h y (of_decide_eq_true hy))
  · intro q; exact h1 (of_decide_eq_true q)
  · exact decide_eq_true h2
theorem Mon.cst (M : Mon n S) (h2 : 2 ≤ n) (h5 : n ≤ 5) (I : IdC n S) : ∀ (r : Nat) (t : Eff), rank n t = r → S t → ¬ Surj n t → Cst n t := by
  intro r
  induction r using Nat.strongRecOn with
  | ind r ih =>
    intro t er ht ns
    refine Classical.byContradiction fun nc => ?_
    have ot := M.ok _ ht
    have two : ∃ a b, a < n ∧ b < n ∧ ap t a ≠ ap t b := by
      refine Classical.byContradiction fun q => nc ⟨ap t 0, ot.ap_lt (by omega), fun x hx => ?_⟩
      exact Classical.byContradiction fun z => q ⟨x, 0, hx, by omega, z⟩
    obtain ⟨a, b, ha, hb, nab⟩ := two
    have key : ∀ g, S g → ap t (ap g (ap t a)) = ap t (ap g (ap t b)) := by
      intro g hg
      have og := M.ok _ hg
      have hw : S (thn g t) := M.mul _ _ hg ht
      have ow := M.ok _ hw
      have nw : ¬ Surj n (thn g t) := fun q => ns (surj_last og q)
      have cw : Cst n (EO.p60 (thn g t)) := by
        refine I _ (M.p60 hw) (idem_ok h2 h5 ow) fun q => nw ((surj_iff h2 h5 ow).mpr q)
      obtain ⟨c, hc, ec⟩ := cw
      have ncov : ¬ Cov n (Im n t) (thn g t) := by
        intro cv
        refine nc ⟨c, hc, fun x hx => ?_⟩
        have hA : ∀ y, Im n t y → y < n := fun y ⟨x, hx, e⟩ => by rw [← e]; exact ot.ap_lt hx
        obtain ⟨z, hz, _, e1⟩ := cov_pw ow hA cv 60 (ap t x) ⟨x, hx, rfl⟩
        rw [← p60_pw ow, ec z hz] at e1
        exact e1.symm
      have hu : S (thn t (thn g t)) := M.mul _ _ ht hw
      have ou := M.ok _ hu
      have at_ : ∀ x, x < n → ap (thn t (thn g t)) x = ap t (ap g (ap t x)) := fun x hx => by rw [ap_thn ot hx, ap_thn og (ot.ap_lt hx)]
      have lt : rank n (thn t (thn g t)) < rank n t := by
        have ex : ∃ y, Im n t y ∧ ¬ ∃ z, z < n ∧ Im n t z ∧ ap (thn g t) z = y := by
          refine Classical.byContradiction fun q => ncov fun y hy => ?_
          exact Classical.byContradiction fun z => q ⟨y, hy, z⟩
        obtain ⟨y, hy, hn⟩ := ex
        refine rank_lt (fun v ⟨x, hx, e⟩ => ?_) (z := y) ?_ (fun ⟨x, hx, e⟩ => hn ⟨ap t x, ot.ap_lt hx, ⟨x, hx, rfl⟩, ?_⟩) hy
        · rw [at_ x hx] at e
          exact ⟨_, og.ap_lt (ot.ap_lt hx), e⟩
        · obtain ⟨x, hx, e⟩ := hy
          rw [← e]
          exact ot.ap_lt hx
        · rw [ap_thn ot hx] at e
          exact e
      have nu : ¬ Surj n (thn t (thn g t)) := fun q => nw (surj_last ot q)
      obtain ⟨d, _, ed⟩ := ih _ (by rw [← er]; exact lt) _ rfl hu nu
      rw [← at_ a ha, ← at_ b hb, ed a ha, ed b hb]
    have all := M.primT (fun a b => ap t a = ap t b) (fun _ => rfl) (fun _ _ q => q.symm) (fun _ _ _ p q => p.trans q) (ot.ap_lt ha) (ot.ap_lt hb) nab key
    exact nab (all a b ha hb)
end
/-! those that leave nothing alone, by looking at all -/
def fixN (e : Eff) : Nat := ((List.range e.length).filter fun i => Nat.beq (ap e i) i).length
def wild (f : Eff) : Bool := Nat.ble 2 (fixN f) && !(f == idE f.length)
def pair2 (f g : Eff) : Bool := let a := thn f g; a == thn g f || wild a || wild (thn f f) || wild (thn g g) || wild (thn g (thn f f)) || wild (thn (thn f g) (thn g f))
def fpf (n : Nat) : List Eff := (tups n n).filter fun f => Nat.beq (fixN f) 0 && ((List.range n).all fun y => f.contains y)
def pairs2 (n : Nat) : Bool := (fpf n).all fun f => (fpf n).all fun g => pair2 f g
theorem pairs_2 : pairs2 2 = true := by decide +kernel
theorem pairs_3 : pairs2 3 = true := by decide +kernel
theorem pairs_4 : pairs2 4 = true := by decide +kernel
theorem pairs_5 : pairs2 5 = true := by decide +kernel
theorem wild_not {n : Nat} {S : Eff → Prop} (M : Mon n S) (h : Hon n S) {f : Eff} (hf : S f) : wild f = false := by
  cases e : wild f with
  | false => rfl
  | true =>
    exfalso
    simp only [wild, Bool.and_eq_true, Bool.not_eq_true'] at e
    obtain ⟨e1, e2⟩ := e
    have o := M.ok _ hf
    have ne : f ≠ idE n := fun q => by
      rw [o.len] at e2
      rw [q] at e2
      simp at e2
    have h1 := Nat.le_of_ble_eq_true e1
    unfold fixN at h1
    rw [o.len] at h1
    cases hl : (List.range n).filter fun i => Nat.beq (ap f i) i with
    | nil => rw [hl] at h1; simp at h1
    | cons x r =>
      cases r with
      | nil => rw [hl] at h1; simp at h1
      | cons y r =>
        have nd : ((List.range n).filter fun i => Nat.beq (ap f i) i).Nodup := List.Pairwise.filter _ List.nodup_range
        have mx : x ∈ (List.range n).filter fun i => Nat.beq (ap f i) i := by rw [hl]; simp
        have my : y ∈ (List.range n).filter fun i => Nat.beq (ap f i) i := by rw [hl]; simp
        rw [hl] at nd
        obtain ⟨hx, ex⟩ := List.mem_filter.mp mx
        obtain ⟨hy, ey⟩ := List.mem_filter.mp my
        have q := M.fix1 h hf ne (List.mem_range.mp hx) (List.mem_range.mp hy) (Nat.eq_of_beq_eq_true ex) (Nat.eq_of_beq_eq_true ey)
        subst q
        simp at nd
theorem fpf_mem {n : Nat} {f : Eff} (o : Ok n f) (s : Surj n f) (h : ∀ x, x < n → ap f x ≠ x) : f ∈ fpf n := by
  refine List.mem_filter.mpr ⟨o.mem, ?_⟩
  simp only [Bool.and_eq_true]
  refine ⟨?_, ?_⟩
  · have z : fixN f = 0 := by
      unfold fixN
      rw [o.len, List.length_eq_zero_iff, List.filter_eq_nil_iff]
      intro x hx q
      exact h x (List.mem_range.mp hx) (Nat.eq_of_beq_eq_true q)
    rw [z]; rfl
  · rw [List.all_eq_true]
    intro y hy
    obtain ⟨x, hx, e⟩ := s y (List.mem_range.mp hy)
    rw [List.contains_iff_mem]
    rw [← e]
    exact List.mem_of_getElem? (ap_get (by rw [o.len]; exact hx))
theorem Mon.nob_of_hon {n : Nat} {S : Eff → Prop} (M : Mon n S) (h2 : 2 ≤ n) (h5 : n ≤ 5) (h : Hon n S) : NoB n S := by
  intro f g hf hg nf ng
  have of := M.ok _ hf
  have og := M.ok _ hg
  constructor
  · intro c x hx
    have c' : ∀ {x : Nat}, x < n → ap g (ap f x) = ap f (ap g x) := fun {x} hx => ap_of_eq of og c hx
    constructor
    · intro e
      have q := c' hx
      rw [e] at q
      exact (M.fix1 h hf nf hx (og.ap_lt hx) e q.symm).symm
    · intro e
      have q := c' hx
      rw [e] at q
      exact (M.fix1 h hg ng hx (of.ap_lt hx) e q).symm
  · intro q
    by_cases ex : ∃ x, x < n ∧ ap f x = x
    · obtain ⟨x, hx, e⟩ := ex
      have e' := (q x hx).mp e
      exact h f g hf hg ⟨x, hx, by rw [e, e', e]⟩
    · have nff : ∀ x, x < n → ap f x ≠ x := fun x hx e => ex ⟨x, hx, e⟩
      have ngg : ∀ x, x < n → ap g x ≠ x := fun x hx e => ex ⟨x, hx, (q x hx).mpr e⟩
      have I := M.idC (by omega) h
      have sur : ∀ {f : Eff}, S f → (∀ x, x < n → ap f x ≠ x) → Surj n f := fun {f} hf nf => by
        refine Classical.byContradiction fun ns => ?_
        obtain ⟨c, hc, e⟩ := M.cst h2 h5 I _ f rfl hf ns
        exact nf c hc (e c hc)
      have mf := fpf_mem of (sur hf nff) nff
      have mg := fpf_mem og (sur hg ngg) ngg
      have all : pairs2 n = true := by
        rcases (by omega : n = 2 ∨ n = 3 ∨ n = 4 ∨ n = 5) with rfl | rfl | rfl | rfl
        · exact pairs_2
        · exact pairs_3
        · exact pairs_4
        · exact pairs_5
      have p := List.all_eq_true.mp (List.all_eq_true.mp all f mf) g mg
      simp only [pair2, wild_not M h (M.mul _ _ hf hg), wild_not M h (M.mul _ _ hf hf), wild_not M h (M.mul _ _ hg hg), wild_not M h (M.mul _ _ hg (M.mul _ _ hf hf)),
        wild_not M h (M.mul _ _ (M.mul _ _ hf hg) (M.mul _ _ hg hf)), Bool.or_false, beq_iff_eq] at p
      exact p
end EO
end
section
set_option linter.all false
/-! a transitive group has what leaves nothing alone; from «no breach» to «honest» -/
namespace EO
theorem len_le_of_sub {α : Type} [DecidableEq α] : ∀ {l l' : List α}, l.Nodup → (∀ x ∈ l, x ∈ l') → l.length ≤ l'.length
  | [], _, _, _ => Nat.zero_le _
  | x :: r, l', nd, h => by
    have nx := (List.nodup_cons.mp nd).1
    have hx := h x (List.mem_cons_self ..)
    have q := len_le_of_sub (l' := l'.erase x) (List.nodup_cons.mp nd).2 fun y hy => (List.mem_erase_of_ne (fun e => nx (by rw [← e]; exact hy))).mpr (h y (List.mem_cons_of_mem _ hy))
    rw [List.length_erase_of_mem hx] at q
    have p := List.length_pos_of_mem hx
    rw [List.length_cons]
    omega
theorem tups_nodup (n : Nat) : ∀ k, (tups n k).Nodup
  | 0 => by simp [tups]
  | k + 1 => by
    have ih := tups_nodup n k
    unfold tups List.Nodup
    rw [List.pairwise_flatMap]
    refine ⟨fun a _ => ?_, ?_⟩
    · rw [List.pairwise_map]
      exact ih.imp fun h q => h (List.cons.inj q).2
    · have nr : (List.range n).Pairwise (· ≠ ·) := List.nodup_range
      refine nr.imp fun {a b} h x hx y hy q => ?_
      obtain ⟨u, _, rfl⟩ := List.mem_map.mp hx
      obtain ⟨v, _, rfl⟩ := List.mem_map.mp hy
      exact h (List.cons.inj q).1
/-! sums below a number -/
def sm (g : Nat → Nat) : Nat → Nat
  | 0 => 0
  | k + 1 => sm g k + g k
theorem sm_add (g h : Nat → Nat) : ∀ n, sm (fun x => g x + h x) n = sm g n + sm h n
  | 0 => rfl
  | n + 1 => by simp only [sm, sm_add g h n]; omega
theorem sm_congr {g h : Nat → Nat} : ∀ {n}, (∀ x, x < n → g x = h x) → sm g n = sm h n
  | 0, _ => rfl
  | n + 1, e => by rw [sm, sm, sm_congr fun x hx => e x (by omega), e n (by omega)]
theorem sm_zero : ∀ n, sm (fun _ => 0) n = 0
  | 0 => rfl
  | n + 1 => by rw [sm, sm_zero n]
theorem sm_const (c : Nat) : ∀ n, sm (fun _ => c) n = n * c
  | 0 => by simp [sm]
  | n + 1 => by rw [sm, sm_const c n, Nat.succ_mul]
theorem sm_mul (c : Nat) (g : Nat → Nat) : ∀ n, c * sm g n = sm (fun x => c * g x) n
  | 0 => rfl
  | n + 1 => by rw [sm, Nat.mul_add, sm_mul c g n, sm]
theorem sm_ind (v : Nat) : ∀ n, sm (fun y => if v = y then 1 else 0) n = if v < n then 1 else 0
  | 0 => rfl
  | n + 1 => by
    rw [sm, sm_ind v n]
    by_cases h : v = n
    · subst h; simp
    · by_cases h2 : v < n
      · simp [h, h2, show v < n + 1 by omega]
      · simp [h, h2, show ¬ v < n + 1 by omega]
def cnt (p : Eff → Bool) (L : List Eff) : Nat := (L.filter p).length
theorem cnt_cons (p : Eff → Bool) (f : Eff) (L : List Eff) : cnt p (f :: L) = (if p f = true then 1 else 0) + cnt p L := by
  unfold cnt
  by_cases h : p f = true
  · rw [List.filter_cons_of_pos h, if_pos h, List.length_cons]; omega
  · rw [List.filter_cons_of_neg h, if_neg h]; omega
/-- each is counted once -/
theorem cnt_part (x n : Nat) : ∀ L : List Eff, (∀ f ∈ L, ap f x < n) → sm (fun y => cnt (fun f => decide (ap f x = y)) L) n = L.length
  | [], _ => by simp [cnt, sm_zero]
  | f :: L, h => by
    rw [sm_congr (fun y _ => cnt_cons (fun f => decide (ap f x = y)) f L), sm_add, cnt_part x n L fun g hg => h g (List.mem_cons_of_mem _ hg)]
    have e : sm (fun y => if decide (ap f x = y) = true then 1 else 0) n = 1 := by
      rw [sm_congr (h := fun y => if ap f x = y then 1 else 0) (fun y _ => by simp), sm_ind, if_pos (h f (List.mem_cons_self ..))]
    rw [e, List.length_cons]; omega
def fixS (n : Nat) (f : Eff) : Nat := sm (fun x => if ap f x = x then 1 else 0) n
def sumF (n : Nat) : List Eff → Nat
  | [] => 0
  | f :: L => fixS n f + sumF n L
theorem cnt_fix (n : Nat) : ∀ L : List Eff, sm (fun x => cnt (fun f => decide (ap f x = x)) L) n = sumF n L
  | [] => by simp [cnt, sumF, sm_zero]
  | f :: L => by
    rw [sm_congr (fun x _ => cnt_cons (fun f => decide (ap f x = x)) f L), sm_add, cnt_fix n L, sumF]
    unfold fixS
    rw [sm_congr (g := fun x => if decide (ap f x = x) = true then 1 else 0) (h := fun x => if ap f x = x then 1 else 0) (fun x _ => by simp)]
theorem sm_pos {g : Nat → Nat} : ∀ {n x}, x < n → 1 ≤ g x → 1 ≤ sm g n
  | 0, _, h, _ => by omega
  | n + 1, x, h, q => by
    rw [sm]
    by_cases e : x = n
    · subst e; omega
    · have := sm_pos (n := n) (x := x) (by omega) q
      omega
theorem sumF_ge (n : Nat) : ∀ L : List Eff, (∀ f ∈ L, 1 ≤ fixS n f) → L.length ≤ sumF n L
  | [], _ => Nat.zero_le _
  | f :: L, h => by
    have := sumF_ge n L fun g hg => h g (List.mem_cons_of_mem _ hg)
    have := h f (List.mem_cons_self ..)
    rw [sumF, List.length_cons]; omega
theorem sumF_gt (n : Nat) : ∀ L : List Eff, (∀ f ∈ L, 1 ≤ fixS n f) → (∃ f ∈ L, 2 ≤ fixS n f) → L.length < sumF n L
  | [], _, h => by obtain ⟨_, h, _⟩ := h; simp at h
  | f :: L, h, ⟨g, hg, q⟩ => by
    have a := sumF_ge n L fun g hg => h g (List.mem_cons_of_mem _ hg)
    have b := h f (List.mem_cons_self ..)
    rw [sumF, List.length_cons]
    rcases List.mem_cons.mp hg with rfl | hg
    · omega
    · have := sumF_gt n L (fun g hg => h g (List.mem_cons_of_mem _ hg)) ⟨g, hg, q⟩
      omega
/-- a group of effects -/
structure Grp (n : Nat) (P : Eff → Prop) : Prop where
  ok : ∀ f, P f → Ok n f
  one : P (idE n)
  mul : ∀ f g, P f → P g → P (thn f g)
  inv : ∀ f, P f → ∃ g, P g ∧ (∀ x, x < n → ap g (ap f x) = x) ∧ ∀ x, x < n → ap f (ap g x) = x
open Classical in
theorem jordan {n : Nat} {P : Eff → Prop} (h2 : 2 ≤ n) (G : Grp n P) (tr : ∀ a b, a < n → b < n → ∃ f, P f ∧ ap f a = b) : ∃ f, P f ∧ ∀ x, x < n → ap f x ≠ x := by
  refine Classical.byContradiction fun hno => ?_
  have hfix : ∀ f, P f → ∃ x, x < n ∧ ap f x = x := fun f hf => by
    refine Classical.byContradiction fun q => hno ⟨f, hf, fun x hx e => q ⟨x, hx, e⟩⟩
  let L := (tups n n).filter fun f => decide (P f)
  have mem : ∀ f, f ∈ L ↔ P f := fun f => by
    constructor
    · intro h
      exact of_decide_eq_true (List.mem_filter.mp h).2
    · intro h
      exact List.mem_filter.mpr ⟨(G.ok f h).mem, decide_eq_true h⟩
  have nd : L.Nodup := List.Pairwise.filter _ (tups_nodup n n)
  have le : ∀ x y z, x < n → y < n → z < n → cnt (fun f => decide (ap f x = y)) L ≤ cnt (fun f => decide (ap f x = z)) L := by
    intro x y z hx hy hz
    obtain ⟨h, hP, e⟩ := tr y z hy hz
    obtain ⟨k, kP, k1, k2⟩ := G.inv h hP
    unfold cnt
    have nd1 : ((L.filter fun f => decide (ap f x = y)).map fun f => thn f h).Nodup := by
      unfold List.Nodup
      rw [List.pairwise_map]
      refine List.Pairwise.imp_of_mem (fun {a b} ha hb ne q => ne ?_) (List.Pairwise.filter _ nd)
      have oa := G.ok a ((mem a).mp (List.mem_filter.mp ha).1)
      have ob := G.ok b ((mem b).mp (List.mem_filter.mp hb).1)
      refine oa.ext ob fun w hw => ?_
      have z1 : ap h (ap a w) = ap h (ap b w) := by rw [← ap_thn oa hw, q, ap_thn ob hw]
      rw [← k1 _ (oa.ap_lt hw), z1, k1 _ (ob.ap_lt hw)]
    have q := len_le_of_sub (l' := L.filter fun f => decide (ap f x = z)) nd1 fun g hg => by
      obtain ⟨f, hf, rfl⟩ := List.mem_map.mp hg
      obtain ⟨f1, f2⟩ := List.mem_filter.mp hf
      have fP := (mem f).mp f1
      refine List.mem_filter.mpr ⟨(mem _).mpr (G.mul _ _ fP hP), decide_eq_true ?_⟩
      rw [ap_thn (G.ok f fP) hx, of_decide_eq_true f2, e]
    rwa [List.length_map] at q
  have each : ∀ x, x < n → n * cnt (fun f => decide (ap f x = x)) L = L.length := by
    intro x hx
    rw [← cnt_part x n L fun f hf => (G.ok f ((mem f).mp hf)).ap_lt hx, ← sm_const]
    exact sm_congr fun y hy => Nat.le_antisymm (le x x y hx hx hy) (le x y x hx hy hx)
  have tot : n * sumF n L = n * L.length := by
    rw [← cnt_fix n L, sm_mul, ← sm_const]
    exact sm_congr each
  have tot' := Nat.eq_of_mul_eq_mul_left (by omega : 0 < n) tot
  have gt := sumF_gt n L (fun f hf => by
    obtain ⟨x, hx, e⟩ := hfix f ((mem f).mp hf)
    exact sm_pos hx (by rw [if_pos e]; exact Nat.le_refl 1)) ⟨idE n, (mem _).mpr G.one, by
      unfold fixS
      rw [sm_congr (h := fun _ => 1) (fun x hx => if_pos (ap_id hx)), sm_const]
      omega⟩
  omega
/-! no breach, three states or more -/
section
variable {n : Nat} {S : Eff → Prop}
theorem Mon.idC_of_nob (M : Mon n S) (h3 : 3 ≤ n) (h : NoB n S) : IdC n S := by
  intro e he i ne
  have oe := M.ok _ he
  refine cst_of oe (by omega) i fun x y hx hy ex ey => Classical.byContradiction fun nxy => ?_
  have ee : ∀ z, z < n → ap e (ap e z) = ap e z := fun z hz => by
    have q := ap_thn (g := e) oe hz
    rw [i] at q
    exact q.symm
  have stepA : ∀ g, S g → ∀ a, a < n → ap e a = a → ap e (ap g a) = a := by
    intro g hg a ha ea
    have og := M.ok _ hg
    have hh := M.mul _ _ (M.mul _ _ he hg) he
    have at_ : ∀ z, z < n → ap (thn (thn e g) e) z = ap e (ap g (ap e z)) := fun z hz => by rw [ap_thn (ok_thn oe og) hz, ap_thn oe hz]
    have nh : thn (thn e g) e ≠ idE n := fun q => by
      have s : Surj n (thn (thn e g) e) := by rw [q]; exact surj_id
      exact ne (surj_idem oe i (surj_last (ok_thn oe og) s))
    have c : thn e (thn (thn e g) e) = thn (thn (thn e g) e) e := eq_of_ap oe (M.ok _ hh) fun z hz => by
      rw [at_ _ (oe.ap_lt hz), at_ z hz, ee z hz, ee _ (og.ap_lt (oe.ap_lt hz))]
    have q := ((h _ _ he hh ne nh).mp c a ha).mp ea
    rw [at_ a ha, ea] at q
    exact q
  have stepB : ∀ a, a < n → ap e a = a → ∀ g, S g → ap g a = a := by
    intro a ha ea g0 hg0
    refine Classical.byContradiction fun nga => ?_
    let Orb := fun z => ∃ g, S g ∧ ap g a = z
    have tot := M.prim (fun p q => p = q ∨ (Orb p ∧ Orb q)) (fun _ => .inl rfl) (fun p q r => by
        rcases r with r | ⟨r1, r2⟩
        · exact .inl r.symm
        · exact .inr ⟨r2, r1⟩) (fun p q r u v => by
        rcases u with u | ⟨u1, u2⟩
        · rw [u]; exact v
        · rcases v with v | ⟨v1, v2⟩
          · rw [← v]; exact .inr ⟨u1, u2⟩
          · exact .inr ⟨u1, v2⟩) (fun g hg p q hp hq r => by
        rcases r with r | ⟨⟨g1, hg1, e1⟩, ⟨g2, hg2, e2⟩⟩
        · rw [r]; exact .inl rfl
        · exact .inr ⟨⟨thn g1 g, M.mul _ _ hg1 hg, by rw [ap_thn (M.ok _ hg1) ha, e1]⟩, ⟨thn g2 g, M.mul _ _ hg2 hg, by rw [ap_thn (M.ok _ hg2) ha, e2]⟩⟩)
        ⟨a, ap g0 a, ha, (M.ok _ hg0).ap_lt ha, fun q => nga q.symm, .inr ⟨⟨idE n, M.one, ap_id ha⟩, ⟨g0, hg0, rfl⟩⟩⟩ x y hx hy
    rcases tot with q | ⟨⟨g1, hg1, e1⟩, ⟨g2, hg2, e2⟩⟩
    · exact nxy q
    · have q1 := stepA g1 hg1 a ha ea
      have q2 := stepA g2 hg2 a ha ea
      rw [e1, ex] at q1
      rw [e2, ey] at q2
      exact nxy (q1.trans q2.symm)
  have tot := M.prim (fun p q => p = q ∨ ((p = x ∨ p = y) ∧ (q = x ∨ q = y))) (fun _ => .inl rfl) (fun p q r => by
      rcases r with r | ⟨r1, r2⟩
      · exact .inl r.symm
      · exact .inr ⟨r2, r1⟩) (fun p q r u v => by
      rcases u with u | ⟨u1, u2⟩
      · rw [u]; exact v
      · rcases v with v | ⟨v1, v2⟩
        · rw [← v]; exact .inr ⟨u1, u2⟩
        · exact .inr ⟨u1, v2⟩) (fun g hg p q hp hq r => by
      rcases r with r | ⟨r1, r2⟩
      · rw [r]; exact .inl rfl
      · refine .inr ⟨?_, ?_⟩
        · rcases r1 with r1 | r1
          · rw [r1]; exact .inl (stepB x hx ex g hg)
          · rw [r1]; exact .inr (stepB y hy ey g hg)
        · rcases r2 with r2 | r2
          · rw [r2]; exact .inl (stepB x hx ex g hg)
          · rw [r2]; exact .inr (stepB y hy ey g hg))
      ⟨x, y, hx, hy, nxy, .inr ⟨.inl rfl, .inr rfl⟩⟩
  obtain ⟨z, hz, zx, zy⟩ : ∃ z, z < n ∧ z ≠ x ∧ z ≠ y := by
    by_cases a0 : x = 0 ∨ y = 0
    · by_cases a1 : x = 1 ∨ y = 1
      · exact ⟨2, by omega, by omega, by omega⟩
      · exact ⟨1, by omega, by omega, by omega⟩
    · exact ⟨0, by omega, by omega, by omega⟩
  rcases tot z x hz hx with q | ⟨q, _⟩
  · exact zx q
  · rcases q with q | q
    · exact zx q
    · exact zy q
theorem Mon.grp (M : Mon n S) (h2 : 2 ≤ n) (h5 : n ≤ 5) : Grp n fun f => S f ∧ Surj n f where
  ok := fun f h => M.ok f h.1
  one := ⟨M.one, surj_id⟩
  mul := fun f g hf hg => ⟨M.mul _ _ hf.1 hg.1, surj_thn (M.ok _ hf.1) (M.ok _ hg.1) hf.2 hg.2⟩
  inv := fun f hf => by
    have o := M.ok _ hf.1
    have e : EO.pw n f 60 = idE n := by rw [← p60_pw o]; exact (surj_iff h2 h5 o).mp hf.2
    refine ⟨EO.pw n f 59, ⟨M.pw hf.1 59, surj_pw o hf.2 59⟩, fun x hx => ?_, fun x hx => ?_⟩
    · rw [← ap_thn o hx]
      have q : thn f (EO.pw n f 59) = EO.pw n f 60 := by
        conv => lhs; rw [← pw_one o]
        have := pw_add o 1 59
        rw [pw_one o] at this ⊢
        exact this
      rw [q, e, ap_id hx]
    · rw [← ap_thn (ok_pw o 59) hx]
      show ap (EO.pw n f 60) x = x
      rw [e, ap_id hx]
def Cm (n : Nat) (f g : Eff) : Prop := ∀ x, x < n → ap g (ap f x) = ap f (ap g x)
/-- the group part -/
theorem grp_part {P : Eff → Prop} (h2 : 2 ≤ n) (G : Grp n P) (tr : ∀ a b, a < n → b < n → ∃ f, P f ∧ ap f a = b)
    (prim : ∀ R : Nat → Nat → Prop, (∀ a, R a a) → (∀ a b, R a b → R b a) → (∀ a b c, R a b → R b c → R a c) →
      (∀ e, P e → ∀ a b, a < n → b < n → R a b → R (ap e a) (ap e b)) → (∃ x y, x < n ∧ y < n ∧ x ≠ y ∧ R x y) → ∀ a b, a < n → b < n → R a b)
    (nb : ∀ f g, P f → P g → f ≠ idE n → g ≠ idE n → (Cm n f g ↔ ∀ x, x < n → (ap f x = x ↔ ap g x = x)))
    {f g : Eff} (hf : P f) (hg : P g) {x0 : Nat} (hx0 : x0 < n) (agree : ap g (ap f x0) = ap f (ap g x0)) : Cm n f g := by
  obtain ⟨t, ht, tf⟩ := jordan h2 G tr
  have nt : t ≠ idE n := fun q => tf 0 (by omega) (by rw [q]; exact ap_id (by omega))
  have ot := G.ok _ ht
  -- A: those that exchange with t
  let A := fun s => P s ∧ Cm n t s
  have Aone : A (idE n) := ⟨G.one, fun x hx => by rw [ap_id hx, ap_id (ot.ap_lt hx)]⟩
  have Afpf : ∀ s, A s → s ≠ idE n → ∀ x, x < n → ap s x ≠ x := fun s hs ns x hx e => tf x hx (((nb t s ht hs.1 nt ns).mp hs.2 x hx).mpr e)
  have Aof : ∀ s, P s → (∀ x, x < n → ap s x ≠ x) → A s := fun s hs h => by
    have ns : s ≠ idE n := fun q => h 0 (by omega) (by rw [q]; exact ap_id (by omega))
    exact ⟨hs, (nb t s ht hs nt ns).mpr fun x hx => ⟨fun e => (tf x hx e).elim, fun e => (h x hx e).elim⟩⟩
  have Amul : ∀ s u, A s → A u → A (thn s u) := fun s u hs hu => ⟨G.mul _ _ hs.1 hu.1, fun x hx => by
    have os := G.ok _ hs.1
    have q1 := hs.2 x hx
    have q2 := hu.2 (ap s x) (os.ap_lt hx)
    rw [ap_thn os (ot.ap_lt hx), ap_thn os hx, q1, q2]⟩
  have Auni : ∀ s u, A s → A u → ∀ a, a < n → ap s a = ap u a → s = u := by
    intro s u hs hu a ha e
    have os := G.ok _ hs.1
    have ou := G.ok _ hu.1
    obtain ⟨v, hv, v1, v2⟩ := G.inv u hu.1
    have ov := G.ok _ hv
    have Av : A v := ⟨hv, fun x hx => by
      have q := hu.2 (ap v x) (ov.ap_lt hx)
      rw [v2 x hx] at q
      -- q : u (t (v x)) = t x
      rw [← v1 (ap t (ap v x)) (ot.ap_lt (ov.ap_lt hx)), q]⟩
    have hid : thn s v = idE n := by
      refine Classical.byContradiction fun q => Afpf _ (Amul _ _ hs Av) q a ha ?_
      rw [ap_thn os ha, e, v1 a ha]
    refine os.ext ou fun x hx => ?_
    have q : ap v (ap s x) = x := by rw [← ap_thn os hx, hid, ap_id hx]
    rw [← v2 (ap s x) (os.ap_lt hx), q]
  have Aconj : ∀ f, P f → ∀ s, A s → ∃ c, A c ∧ ∀ x, x < n → ap c (ap f x) = ap f (ap s x) := by
    intro f hf s hs
    have of := G.ok _ hf
    have os := G.ok _ hs.1
    obtain ⟨k, hk, k1, k2⟩ := G.inv f hf
    have ok := G.ok _ hk
    by_cases es : s = idE n
    · exact ⟨idE n, Aone, fun x hx => by rw [es, ap_id hx, ap_id (of.ap_lt hx)]⟩
    · have Pc := G.mul _ _ (G.mul _ _ hk hs.1) hf
      have at_ : ∀ x, x < n → ap (thn (thn k s) f) x = ap f (ap s (ap k x)) := fun x hx => by rw [ap_thn (ok_thn ok os) hx, ap_thn ok hx]
      refine ⟨_, Aof _ Pc fun x hx e => ?_, fun x hx => by rw [at_ _ (of.ap_lt hx), k1 x hx]⟩
      rw [at_ x hx] at e
      have q := congrArg (ap k) e
      rw [k1 _ (os.ap_lt (ok.ap_lt hx))] at q
      exact Afpf s hs es (ap k x) (ok.ap_lt hx) q
  have Atr : ∀ a b, a < n → b < n → ∃ s, A s ∧ ap s a = b := by
    have tot := prim (fun a b => a = b ∨ (a < n ∧ ∃ s, A s ∧ ap s a = b)) (fun _ => .inl rfl) (fun a b r => by
        rcases r with r | ⟨ha, s, hs, e⟩
        · exact .inl r.symm
        · have os := G.ok _ hs.1
          obtain ⟨v, hv, v1, v2⟩ := G.inv s hs.1
          have ov := G.ok _ hv
          refine .inr ⟨by rw [← e]; exact os.ap_lt ha, v, ⟨hv, fun x hx => ?_⟩, by rw [← e, v1 a ha]⟩
          have q := hs.2 (ap v x) (ov.ap_lt hx)
          rw [v2 x hx] at q
          rw [← v1 (ap t (ap v x)) (ot.ap_lt (ov.ap_lt hx)), q])
      (fun a b c u v => by
        rcases u with u | ⟨ha, s, hs, e⟩
        · rw [u]; exact v
        · rcases v with v | ⟨hb, s', hs', e'⟩
          · rw [← v]; exact .inr ⟨ha, s, hs, e⟩
          · exact .inr ⟨ha, thn s s', Amul _ _ hs hs', by rw [ap_thn (G.ok _ hs.1) ha, e, e']⟩)
      (fun e he a b ha hb r => by
        rcases r with r | ⟨_, s, hs, es⟩
        · rw [r]; exact .inl rfl
        · obtain ⟨c, hc, ec⟩ := Aconj e he s hs
          exact .inr ⟨(G.ok _ he).ap_lt ha, c, hc, by rw [ec a ha, es]⟩)
      ⟨0, ap t 0, by omega, ot.ap_lt (by omega), fun q => tf 0 (by omega) q.symm, .inr ⟨by omega, t, ⟨ht, fun _ _ => rfl⟩, rfl⟩⟩
    intro a b ha hb
    rcases tot a b ha hb with q | ⟨_, s, hs, e⟩
    · exact ⟨idE n, Aone, by rw [ap_id ha, q]⟩
    · exact ⟨s, hs, e⟩
  -- one state alone at most
  have uni : ∀ f, P f → f ≠ idE n → ∀ a b, a < n → b < n → ap f a = a → ap f b = b → a = b := by
    intro f hf nf a b ha hb ea eb
    refine Classical.byContradiction fun nab => ?_
    obtain ⟨s, hs, es⟩ := Atr a b ha hb
    obtain ⟨c, hc, ec⟩ := Aconj f hf s hs
    have q := ec a ha
    rw [ea, es, eb, ← es] at q
    have ecs := Auni c s hc hs a ha q
    have ns : s ≠ idE n := fun z => nab (by rw [← es, z, ap_id ha])
    have cm : Cm n f s := fun x hx => by rw [← ecs, ec x hx, ecs]
    exact Afpf s hs ns a ha (((nb f s hf hs.1 nf ns).mp cm a ha).mp ea)
  obtain ⟨s, hs, es⟩ := Atr 0 (ap f 0) (by omega) ((G.ok _ hf).ap_lt (by omega))
  obtain ⟨u, hu, eu⟩ := Atr 0 (ap g 0) (by omega) ((G.ok _ hg).ap_lt (by omega))
  obtain ⟨s', hs', s1, s2⟩ := G.inv s hs.1
  obtain ⟨u', hu', u1, u2⟩ := G.inv u hu.1
  have of := G.ok _ hf
  have og := G.ok _ hg
  have os := G.ok _ hs.1
  have ou := G.ok _ hu.1
  have hf' := G.mul _ _ hf hs'
  have hg' := G.mul _ _ hg hu'
  have of' := G.ok _ hf'
  have og' := G.ok _ hg'
  have f0 : ap (thn f s') 0 = 0 := by rw [ap_thn of (by omega), ← es, s1 0 (by omega)]
  have g0 : ap (thn g u') 0 = 0 := by rw [ap_thn og (by omega), ← eu, u1 0 (by omega)]
  have cm : Cm n (thn f s') (thn g u') := by
    by_cases nf : thn f s' = idE n
    · rw [nf]; exact fun x hx => by rw [ap_id hx, ap_id (og'.ap_lt hx)]
    · by_cases ng : thn g u' = idE n
      · rw [ng]; exact fun x hx => by rw [ap_id hx, ap_id (of'.ap_lt hx)]
      · refine (nb _ _ hf' hg' nf ng).mpr fun x hx => ⟨fun e => ?_, fun e => ?_⟩
        · have z := uni _ hf' nf x 0 hx (by omega) e f0
          rw [z]; exact g0
        · have z := uni _ hg' ng x 0 hx (by omega) e g0
          rw [z]; exact f0
  have fe : ∀ x, x < n → ap f x = ap s (ap (thn f s') x) := fun x hx => by rw [ap_thn of hx, s2 _ (of.ap_lt hx)]
  have ge : ∀ x, x < n → ap g x = ap u (ap (thn g u') x) := fun x hx => by rw [ap_thn og hx, u2 _ (og.ap_lt hx)]
  obtain ⟨a1, ha1, e1⟩ := Aconj _ hg' s hs
  obtain ⟨a2, ha2, e2⟩ := Aconj _ hf' u hu
  have o1 := G.ok _ ha1.1
  have o2 := G.ok _ ha2.1
  have gf : ∀ x, x < n → ap g (ap f x) = ap (thn a1 u) (ap (thn g u') (ap (thn f s') x)) := fun x hx => by
    have hh := of'.ap_lt hx
    rw [ge _ (of.ap_lt hx), fe x hx, ← e1 _ hh, ap_thn o1 (og'.ap_lt hh)]
  have fg : ∀ x, x < n → ap f (ap g x) = ap (thn a2 s) (ap (thn f s') (ap (thn g u') x)) := fun x hx => by
    have hh := og'.ap_lt hx
    rw [fe _ (og.ap_lt hx), ge x hx, ← e2 _ hh, ap_thn o2 (of'.ap_lt hh)]
  have eq12 : thn a1 u = thn a2 s := by
    refine Auni _ _ (Amul _ _ ha1 hu) (Amul _ _ ha2 hs) (ap (thn g u') (ap (thn f s') x0)) (og'.ap_lt (of'.ap_lt hx0)) ?_
    rw [← gf x0 hx0, agree, fg x0 hx0, cm x0 hx0]
  intro x hx
  rw [gf x hx, fg x hx, eq12, cm x hx]
theorem Mon.hon_of_nob (M : Mon n S) (h3 : 3 ≤ n) (h5 : n ≤ 5) (h : NoB n S) : Hon n S := by
  intro f g hf hg ⟨x, hx, ag⟩
  have of := M.ok _ hf
  have og := M.ok _ hg
  have I := M.idC_of_nob h3 h
  have h2 : 2 ≤ n := by omega
  by_cases sf : Surj n f
  · by_cases sg : Surj n g
    · have G := M.grp h2 h5
      by_cases nf : f = idE n
      · rw [nf, id_thn og, thn_id og]
      · obtain ⟨z, hz, mz⟩ := ne_id of nf
        have pr : ∀ R : Nat → Nat → Prop, (∀ a, R a a) → (∀ a b, R a b → R b a) → (∀ a b c, R a b → R b c → R a c) →
            (∀ e, (S e ∧ Surj n e) → ∀ a b, a < n → b < n → R a b → R (ap e a) (ap e b)) → (∃ x y, x < n ∧ y < n ∧ x ≠ y ∧ R x y) → ∀ a b, a < n → b < n → R a b := by
          intro R r1 r2 r3 r4 r5
          refine M.prim R r1 r2 r3 (fun e he a b ha hb r => ?_) r5
          by_cases se : Surj n e
          · exact r4 e ⟨he, se⟩ a b ha hb r
          · obtain ⟨c, _, ec⟩ := M.cst h2 h5 I _ e rfl he se
            rw [ec a ha, ec b hb]
            exact r1 c
        have tr : ∀ a b, a < n → b < n → ∃ f, (S f ∧ Surj n f) ∧ ap f a = b := by
          have tot := pr (fun a b => a = b ∨ (a < n ∧ ∃ h, (S h ∧ Surj n h) ∧ ap h a = b)) (fun _ => .inl rfl) (fun a b r => by
              rcases r with r | ⟨ha, s, hs, e⟩
              · exact .inl r.symm
              · obtain ⟨v, hv, v1, v2⟩ := G.inv s hs
                exact .inr ⟨by rw [← e]; exact (G.ok _ hs).ap_lt ha, v, hv, by rw [← e, v1 a ha]⟩)
            (fun a b c u v => by
              rcases u with u | ⟨ha, s, hs, e⟩
              · rw [u]; exact v
              · rcases v with v | ⟨hb, s', hs', e'⟩
                · rw [← v]; exact .inr ⟨ha, s, hs, e⟩
                · exact .inr ⟨ha, thn s s', G.mul _ _ hs hs', by rw [ap_thn (G.ok _ hs) ha, e, e']⟩)
            (fun e he a b ha hb r => by
              rcases r with r | ⟨_, s, hs, es⟩
              · rw [r]; exact .inl rfl
              · obtain ⟨v, hv, v1, v2⟩ := G.inv e he
                refine .inr ⟨(G.ok _ he).ap_lt ha, thn (thn v s) e, G.mul _ _ (G.mul _ _ hv hs) he, ?_⟩
                rw [ap_thn (ok_thn (G.ok _ hv) (G.ok _ hs)) ((G.ok _ he).ap_lt ha), ap_thn (G.ok _ hv) ((G.ok _ he).ap_lt ha), v1 a ha, es])
            ⟨z, ap f z, hz, of.ap_lt hz, fun q => mz q.symm, .inr ⟨hz, f, ⟨hf, sf⟩, rfl⟩⟩
          intro a b ha hb
          rcases tot a b ha hb with q | ⟨_, s, hs, e⟩
          · exact ⟨idE n, G.one, by rw [ap_id ha, q]⟩
          · exact ⟨s, hs, e⟩
        refine eq_of_ap of og (grp_part h2 G tr pr (fun f g hf hg nf ng => ?_) ⟨hf, sf⟩ ⟨hg, sg⟩ hx ag)
        rw [← h f g hf.1 hg.1 nf ng]
        exact ⟨fun c => eq_of_ap (M.ok _ hf.1) (M.ok _ hg.1) c, fun c x hx => ap_of_eq (M.ok _ hf.1) (M.ok _ hg.1) c hx⟩
    · obtain ⟨c, hc, ec⟩ := M.cst h2 h5 I _ g rfl hg sg
      refine eq_of_ap of og fun z hz => ?_
      rw [ec _ (of.ap_lt hx), ec x hx] at ag
      rw [ec _ (of.ap_lt hz), ec z hz]
      exact ag
  · obtain ⟨c, hc, ec⟩ := M.cst h2 h5 I _ f rfl hf sf
    refine eq_of_ap of og fun z hz => ?_
    rw [ec _ (og.ap_lt hx), ec x hx] at ag
    rw [ec _ (og.ap_lt hz), ec z hz]
    exact ag
end
/-! two states -/
def two (f g : Eff) : Bool := (thn f g == thn g f || !(ap g (ap f 0) == ap f (ap g 0)) && !(ap g (ap f 1) == ap f (ap g 1)))
theorem two_all : (tups 2 2).all (fun f => (tups 2 2).all fun g => two f g) = true := by decide +kernel
theorem hon2 {S : Eff → Prop} (M : Mon 2 S) : Hon 2 S := by
  intro f g hf hg ⟨x, hx, e⟩
  have p := List.all_eq_true.mp (List.all_eq_true.mp two_all f (M.ok _ hf).mem) g (M.ok _ hg).mem
  simp only [two, Bool.or_eq_true, Bool.and_eq_true, Bool.not_eq_true', beq_iff_eq, beq_eq_false_iff_ne] at p
  rcases p with p | ⟨p0, p1⟩
  · exact p
  · rcases (by omega : x = 0 ∨ x = 1) with rfl | rfl
    · exact (p0 e).elim
    · exact (p1 e).elim
theorem Mon.iff {n : Nat} {S : Eff → Prop} (M : Mon n S) (h2 : 2 ≤ n) (h5 : n ≤ 5) : Hon n S ↔ NoB n S := by
  refine ⟨M.nob_of_hon h2 h5, fun h => ?_⟩
  by_cases e : n = 2
  · subst e; exact hon2 M
  · exact M.hon_of_nob (by omega) h5 h
end EO
end
section
set_option Elab.async false
set_option linter.all false
set_option maxRecDepth 100000
/-! the layer's ground: texts, heaps, data -/
namespace EO
open PySem PySem.Spec PyProof.Rows L2
def topS (i : Nat) : Stmt := PySem.Challenge.pw_eitheronce_k50_whole_breaches_against_li.main.body.getD i (.Pass ⟨0, 0, 0, 0⟩)

/-! ### defs of the text -/
structure Dfn (K : PySem.W.Frag) (mg : Str → Option Value) (x : Str) (st : Stmt) : Prop where
  ex : ∃ f fd, Fun K x x st f fd ∧ mg x = some (.ref f)
/-- a def of one's own, called by its name; nothing is raised -/
structure Fn (P : Program) (w : World) (K : PySem.W.Frag) (mg : Str → Option Value) (base : Heap) (k : Nat) (x : Str) (sp : Sp) : Prop where
  ex : ∃ (f : Addr) (fd : FuncData) (ps : List Str), FnOk P w K mg base CX0 k f fd ps sp ∧ mg x = some (.ref f) ∧ PySem.W.keepIn K (.ref f) = true ∧ Binds K fd ps []
section
variable {P : Program} {w : World} {K : PySem.W.Frag} {mg : Str → Option Value} {base : Heap}
theorem Fn.mono {j k : Nat} {x : Str} {sp : Sp} (F : Fn P w K mg base j x sp) (h : j ≤ k) : Fn P w K mg base k x sp := by
  obtain ⟨f, fd, ps, a, b⟩ := F.ex
  exact ⟨f, fd, ps, a.mono h, b⟩
theorem Fn.imp {k : Nat} {x : Str} {sp sp' : Sp} (F : Fn P w K mg base k x sp) (h : ∀ vs H Q E, sp' vs H Q E → sp vs H Q E) : Fn P w K mg base k x sp' := by
  obtain ⟨f, fd, ps, a, b⟩ := F.ex
  exact ⟨f, fd, ps, a.imp h, b⟩
theorem fn_by {x : Str} {st : Stmt} {N ps : List Str} {k : Nat} {sp : Sp} (D : Dfn K mg x st) (S : FnScope N ps (defScope st))
    (hb : ∀ (kV doc pm : Value) (an : Option Addr) (cdv ct : Value) (us : List Value), us.length = ps.length → bindArgs (PySem.W.fnOf x x (defArgs st) (defBody st) (defScope st) .none kV doc pm an cdv ct) ⟨us, []⟩ = pure (ps.zip us))
    (len : ∀ vs H Q E, sp vs H Q E → vs.length = ps.length)
    (body : ∀ (f : Addr) (cdv : Value) (A : Around) (outer : List Env) (s : Shared) (H : Hp) (vs : List V) (Q : VK) (E : XK), Room k (A.deeper (envOfC x (defScope st) s.heap.objs.size f cdv)) → sp vs H Q E →
      ∃ t, PSs (cxOf CX0 P w K mg base N x (defScope st) f cdv A outer s H E).nox (defBody st) t ∧ t { nx := fun _ H' => Q .non H', rt := Q } (start N vs) H) : Fn P w K mg base (k + 1) x sp := by
  obtain ⟨f, fd, F, m⟩ := D.ex
  exact ⟨f, fd, ps, F.ok S len fun cdv A outer s H vs Q E hr hs => body f cdv A outer s H vs Q E hr hs, m, F.kp, F.binds hb⟩
end
section
variable {X : Cx} {k j : Nat} {x : Str} {sp : Sp} {p pos : Pos} {e : Expr} {es : List Expr} {t : TA}
theorem pe_f (c : Fn X.prog X.w X.K X.mg X.base k x sp) (hr : Room j X.A) (hk : k ≤ j) (hg : Gl X x) (ha : PA X (e :: es) t)
    (hdb : (x == ("__debug__" : Str)) = false := by decide) (he : starEach (e :: es) X.env = (false, eval e X.env) :: starEach es X.env := by rfl) (hpl : (backTo pos (starEach es X.env)).any (·.1) = false := by rfl) :
    PE X (.Call (.Name x p) (e :: es) [] pos) (tCall sp [] E0 t) := by
  obtain ⟨f, fd, ps, F, m, kp, b⟩ := c.ex
  exact pe_call F (hr.mono hk) hg m kp b .nil pass0 ha hdb he hpl
theorem pe_k {v : V} (hg : Gl X x) (h : ∃ u, X.mg x = some u ∧ RelV v u) (hd : (x == ("__debug__" : Str)) = false := by decide) : PE X (.Name x p) (tC v) := by
  obtain ⟨u, m, r⟩ := h
  exact pe_glob hg m r hd
end

/-! ### heaps -/
/-- the tuples stay -/
def KT (H H' : Hp) : Prop := ∀ b xs, H b = some (.tup xs) → H' b = some (.tup xs)
theorem KT.refl (H : Hp) : KT H H := fun _ _ h => h
theorem KT.trans {H H1 H2 : Hp} (a : KT H H1) (b : KT H1 H2) : KT H H2 := fun c o h => b c o (a c o h)
theorem kt {H H' : Hp} (s : Same H H') : KT H H' := fun b xs h => s b _ h
theorem same_new {H : Hp} {p : Addr} {o : HO} (h : H p = none) : Same H (upd H p o) := fun b x e => by rw [upd_ne (ne_of_none e h)]; exact e
/-- a change at what the first heap did not know -/
theorem same_at {H H1 : Hp} {p : Addr} {o : HO} (s : Same H H1) (h : H p = none) : Same H (upd H1 p o) := fun b x e => by rw [upd_ne (ne_of_none e h)]; exact s b x e
theorem kt_new {H : Hp} {p : Addr} {o : HO} (h : H p = none) : KT H (upd H p o) := kt (same_new h)
theorem kt_lst {H : Hp} {p : Addr} {xs : List V} {o : HO} (h : H p = some (.lst xs)) : KT H (upd H p o) := fun b ys e => by
  rw [upd_ne (fun z => by rw [z, h] at e; cases e)]; exact e
theorem kt_dT {H : Hp} {p : Addr} {xs : List (List Key × V)} {o : HO} (h : H p = some (.dT xs)) : KT H (upd H p o) := fun b ys e => by
  rw [upd_ne (fun z => by rw [z, h] at e; cases e)]; exact e
theorem kt_ins {H : Hp} {p C dx : Addr} {fs : List (Str × V)} {o : HO} (h : H p = some (.ins C dx fs)) : KT H (upd H p o) := fun b ys e => by
  rw [upd_ne (fun z => by rw [z, h] at e; cases e)]; exact e
theorem none_back {H H' : Hp} (s : Same H H') {p : Addr} (h : H' p = none) : H p = none := s.free h

/-! ### data by value -/
def vn (n : Nat) : V := .int (n : Int)
abbrev vns (e : List Nat) : List V := e.map vn
abbrev vss (r : List Str) : List V := r.map V.str
def Ef (H : Hp) (v : V) (e : List Nat) : Prop := ∃ a, v = .ref a ∧ H a = some (.tup (vns e))
def Rw (H : Hp) (v : V) (r : List Str) : Prop := ∃ a, v = .ref a ∧ H a = some (.tup (vss r))
def Prr (H : Hp) (v : V) (p : List Nat × List Str) : Prop := ∃ a x y, v = .ref a ∧ H a = some (.tup [x, y]) ∧ Ef H x p.1 ∧ Rw H y p.2
def Dd (H : Hp) (v : V) (d : Str × List Nat) : Prop := ∃ a y, v = .ref a ∧ H a = some (.tup [.str d.1, y]) ∧ Ef H y d.2
theorem Ef.kt {H H' : Hp} {v : V} {e : List Nat} (h : Ef H v e) (k : KT H H') : Ef H' v e := let ⟨a, p, q⟩ := h; ⟨a, p, k _ _ q⟩
theorem Rw.kt {H H' : Hp} {v : V} {e : List Str} (h : Rw H v e) (k : KT H H') : Rw H' v e := let ⟨a, p, q⟩ := h; ⟨a, p, k _ _ q⟩
theorem Prr.kt {H H' : Hp} {v : V} {e : List Nat × List Str} (h : Prr H v e) (k : KT H H') : Prr H' v e := let ⟨a, x, y, p, q, r, s⟩ := h; ⟨a, x, y, p, k _ _ q, r.kt k, s.kt k⟩
theorem Dd.kt {H H' : Hp} {v : V} {e : Str × List Nat} (h : Dd H v e) (k : KT H H') : Dd H' v e := let ⟨a, y, p, q, r⟩ := h; ⟨a, y, p, k _ _ q, r.kt k⟩
/-- item by item -/
def Al {α : Type} (R : V → α → Prop) (vs : List V) (xs : List α) : Prop := vs.length = xs.length ∧ ∀ (i : Nat) (v : V) (x : α), vs[i]? = some v → xs[i]? = some x → R v x
section
variable {α : Type} {R R' : V → α → Prop} {vs : List V} {xs : List α}
theorem Al.nil : Al R [] [] := ⟨rfl, fun i v x h => by simp at h⟩
theorem Al.mono (h : Al R vs xs) (f : ∀ v x, R v x → R' v x) : Al R' vs xs := ⟨h.1, fun i v x a b => f _ _ (h.2 i v x a b)⟩
theorem Al.snoc {v : V} {x : α} (h : Al R vs xs) (r : R v x) : Al R (vs ++ [v]) (xs ++ [x]) := by
  refine ⟨by simp [h.1], fun i u y a b => ?_⟩
  by_cases hi : i < vs.length
  · rw [List.getElem?_append_left hi] at a
    rw [List.getElem?_append_left (by rw [← h.1]; exact hi)] at b
    exact h.2 i u y a b
  · rw [List.getElem?_append_right (by omega)] at a
    rw [List.getElem?_append_right (by rw [← h.1]; omega)] at b
    rw [h.1] at a
    cases z : i - xs.length with
    | zero =>
      rw [z] at a b
      cases a; cases b
      exact r
    | succ m =>
      rw [z] at a
      simp at a
theorem Al.at (h : Al R vs xs) {i : Nat} {x : α} (e : xs[i]? = some x) : ∃ v, vs[i]? = some v ∧ R v x := by
  have hi : i < xs.length := (List.getElem?_eq_some_iff.mp e).1
  have hv : vs[i]? = some (vs[i]'(by rw [h.1]; exact hi)) := List.getElem?_eq_getElem _
  exact ⟨_, hv, h.2 i _ x hv e⟩
theorem Al.at' (h : Al R vs xs) {i : Nat} {v : V} (e : vs[i]? = some v) : ∃ x, xs[i]? = some x ∧ R v x := by
  have hi : i < vs.length := (List.getElem?_eq_some_iff.mp e).1
  have hv : xs[i]? = some (xs[i]'(by rw [← h.1]; exact hi)) := List.getElem?_eq_getElem _
  exact ⟨_, hv, h.2 i _ _ e hv⟩
theorem Al.cons {v : V} {x : α} (r : R v x) (h : Al R vs xs) : Al R (v :: vs) (x :: xs) := by
  refine ⟨by simp [h.1], fun i u y a b => ?_⟩
  cases i with
  | zero => simp at a b; rw [← a, ← b]; exact r
  | succ i => simp at a b; exact h.2 i u y a b
theorem Al.uncons {x : α} (h : Al R vs (x :: xs)) : ∃ v us, vs = v :: us ∧ R v x ∧ Al R us xs := by
  cases vs with
  | nil => exact absurd h.1 (by simp)
  | cons v us =>
    refine ⟨v, us, rfl, h.2 0 v x rfl rfl, by simpa using h.1, fun i u y a b => h.2 (i + 1) u y (by simpa using a) (by simpa using b)⟩
theorem Al.nil_iff (h : Al R vs []) : vs = [] := List.length_eq_zero_iff.mp h.1
theorem Al.take (h : Al R vs xs) (n : Nat) : Al R (vs.take n) (xs.take n) := by
  refine ⟨by simp [h.1], fun i u y a b => ?_⟩
  rw [List.getElem?_take] at a b
  split at a
  · rename_i hi
    rw [if_pos hi] at b
    exact h.2 i u y a b
  · cases a
theorem Al.drop (h : Al R vs xs) (n : Nat) : Al R (vs.drop n) (xs.drop n) := by
  refine ⟨by simp [h.1], fun i u y a b => ?_⟩
  rw [List.getElem?_drop] at a b
  exact h.2 _ u y a b
theorem Al.map_eq {f : α → V} (h : Al (fun v x => v = f x) vs xs) : vs = xs.map f := by
  apply List.ext_getElem?
  intro i
  rw [List.getElem?_map]
  cases e : vs[i]? with
  | none =>
    have : xs[i]? = none := by
      rw [List.getElem?_eq_none_iff] at e ⊢
      rw [← h.1]; exact e
    rw [this]; rfl
  | some v =>
    obtain ⟨x, e2, r⟩ := h.at' e
    rw [e2, r]; rfl
theorem Al.of_map {f : α → V} : Al (fun v x => v = f x) (xs.map f) xs := ⟨by simp, fun i v x a b => by
  rw [List.getElem?_map, b] at a
  exact (Option.some.inj a).symm⟩
end
/-! ### data for == -/
def dI (n : Nat) : PyData := .int (n : Int)
def dE (e : List Nat) : PyData := .tuple (e.map dI)
def dL (e : List Nat) : PyData := .list (e.map dI)
theorem dpAll_ints {K : PySem.W.Frag} {H : Hp} : ∀ e : List Nat, DpAll K H (vns e) (e.map dI)
  | [] => .nil
  | n :: e => .cons (.int _) (dpAll_ints e)
theorem Ef.dp {K : PySem.W.Frag} {H : Hp} {v : V} {e : List Nat} (h : Ef H v e) : Dp K H v (dE e) := by
  obtain ⟨a, rfl, h⟩ := h
  exact .tup (SqT.of h) (dpAll_ints e)
theorem dp_list {K : PySem.W.Frag} {H : Hp} {a : Addr} {e : List Nat} (h : H a = some (.lst (vns e))) : Dp K H (.ref a) (dL e) := .lst (SqL.of h) (dpAll_ints e)
theorem lay_ints : ∀ e : List Nat, PyData.canLayAll0 (e.map dI) = true
  | [] => rfl
  | n :: e => by simp [PyData.canLayAll0, dI, PyData.canLay0, lay_ints e]
theorem depth_ints : ∀ e : List Nat, PyData.depthAll (e.map dI) = 0
  | [] => rfl
  | n :: e => by simp [PyData.depthAll, dI, PyData.depth, depth_ints e]
theorem shaped_dE (e : List Nat) : SeqAt.shaped (dE e) = true := by simp [SeqAt.shaped, dE, PyData.canLay0, lay_ints, PyData.depth, depth_ints]
theorem shaped_dL (e : List Nat) : SeqAt.shaped (dL e) = true := by simp [SeqAt.shaped, dL, PyData.canLay0, lay_ints, PyData.depth, depth_ints]
theorem eqv_ints : ∀ e g : List Nat, PyData.eqvAll (e.map dI) (g.map dI) = decide (e = g)
  | [], [] => rfl
  | [], _ :: _ => rfl
  | _ :: _, [] => rfl
  | n :: e, m :: g => by
    rw [List.map_cons, List.map_cons]
    show (((n : Int) == (m : Int)) && PyData.eqvAll (e.map dI) (g.map dI)) = _
    rw [eqv_ints e g]
    by_cases h : n = m
    · subst h
      by_cases h2 : e = g
      · subst h2; simp
      · simp [h2]
    · have : ¬ (n : Int) = (m : Int) := by omega
      simp [h, this]
theorem eqv_dE (e g : List Nat) : PyData.eqv (dE e) (dE g) = decide (e = g) := eqv_ints e g
theorem eqv_dL (e g : List Nat) : PyData.eqv (dL e) (dL g) = decide (e = g) := eqv_ints e g
/-! small -/
theorem sz {n : Nat} (h : n ≤ 100000) : n ≤ sizeLine := Nat.le_trans h (by decide)
theorem szl {n : Nat} (h : n < 100000) : n < sizeLine := Nat.lt_of_lt_of_le h (by decide)
theorem vn_at {e : List Nat} {i : Nat} (h : i < e.length) : (vns e)[i]? = some (vn (ap e i)) := by rw [List.getElem?_map, ap_get h]; rfl
theorem vns_at {e : List Nat} {i : Nat} {v : V} (h : (vns e)[i]? = some v) : i < e.length ∧ v = vn (ap e i) := by
  have hi : i < e.length := by
    have := (List.getElem?_eq_some_iff.mp h).1
    simpa using this
  exact ⟨hi, Option.some.inj (h.symm.trans (vn_at hi))⟩
theorem at_vn {e : List Nat} {i : Nat} (h : i < e.length) : atI (vns e) ((i : Nat) : Int) = some (vn (ap e i)) := atI_nat (vn_at h)
end EO
end
section
set_option Elab.async false
set_option linter.all false
set_option maxRecDepth 100000
/-! own rules: enumerate of a tuple -/
namespace EO
open PySem PySem.Spec PyProof.Rows L2
set_option maxHeartbeats 2000000 in
theorem enumT_new (t : Addr) (its : Array Value) : Meets (Builtin.«enumerate.__new__» ⟨[.type "enumerate", .ref t], []⟩) (fun _ R s => s.heap.IsTuple t its ∧
    R (.ok (.ret (.ref (s.heap.push { cls := .type "tuple_iterator", data := .fields #[.ref t, .int 0 0] }).objs.size)))
      { s with heap := (s.heap.push { cls := .type "tuple_iterator", data := .fields #[.ref t, .int 0 0] }).push { cls := .type "enumerate", data := .fields #[.none, .bool false, .ref s.heap.objs.size, rawInt 0, .none, .none] } }) :=
  .of_wp fun prog w A R s hq => by
    obtain ⟨hp, g, d, tk, os⟩ := s
    obtain ⟨ht, hr⟩ := hq
    have hsub := sub_enumerate
    have it1 : ∀ {A' : Around} {E : Value → Shared → Prop} {Q : Value → Shared → Prop}, Q (.ref hp.objs.size) ⟨hp.push { cls := .type "tuple_iterator", data := .fields #[.ref t, .int 0 0] }, g, d, tk, os⟩ → wpAny (model prog w) A' (pyIter (.ref t)) Q E ⟨hp, g, d, tk, os⟩ :=
      fun q => wpAny_pyIter_tuple ht q
    wp_walk using it1
    refine wpAny_stack_any fun st => wpAny_pure ?_
    split
    · rename_i c _ _ _ _ _
      cases (c == Value.type "enumerate") <;> (wp_walk using it1; exact ⟨_, rfl, hr⟩)
    · wp_walk using it1
      exact ⟨_, rfl, hr⟩
theorem call_enumT {prog : Program} {w : World} {A : Around} {E : Value → Shared → Prop} {s : Shared} {t : Addr} {its : Array Value} {Q : Value → Shared → Prop} (ht : s.heap.IsTuple t its)
    (k : ∀ h', IsEnum h' (s.heap.objs.size + 1) s.heap.objs.size 0 .none → h'.IsTupleIter s.heap.objs.size t 0 → (∀ b o, s.heap.get? b = some o → h'.get? b = some o) → Q (.ref (s.heap.objs.size + 1)) { s with heap := h' }) :
    wpAny (model prog w) A (call (.type "enumerate") [.ref t]) Q E s := by
  refine callType_new F.called_enumerate (by decide) (F.typeCall_enumerate_1 _) (F.newCall_enumerate_1 _) (fun obj => F.args_object_init_2 obj _) F.entry_enumerate_new (enumT_new t its) ⟨ht, ?_⟩
  have z1 : (s.heap.push { cls := .type "tuple_iterator", data := .fields #[.ref t, .int 0 0] }).objs.size = s.heap.objs.size + 1 := Heap.size_push ..
  have z2 := Heap.get?_push_size (s.heap.push { cls := .type "tuple_iterator", data := .fields #[.ref t, .int 0 0] }) (o := { cls := .type "enumerate", data := .fields #[.none, .bool false, .ref s.heap.objs.size, rawInt 0, .none, .none] }) rfl
  show _ ∧ _
  rw [z1] at z2 ⊢
  exact ⟨⟨_, z2, rfl⟩, k _ z2 ⟨_, Heap.get?_push_of_some _ (Heap.get?_push_size _ rfl), rfl, rfl⟩ fun b o e => Heap.get?_push_of_some _ (Heap.get?_push_of_some _ e)⟩
/-- the tuple at a, each item in a new pair with its number -/
def IteT (K : PySem.W.Frag) (a : Addr) : It :=
  ⟨fun i H => ∃ (xs : List V) (x : V), SqT K H a xs ∧ xs[i]? = some x, fun i H v H' => ∃ T x, v = .ref T ∧ H T = none ∧ H' = upd H T (.tup [.int (i : Nat), x]) ∧ ∀ xs, SqT K H a xs → xs[i]? = some x, fun i H => ∃ xs : List V, SqT K H a xs ∧ xs.length = i⟩
theorem turn_enumT {P : Program} {w : World} {K : PySem.W.Frag} {elts : List Expr} {kk : Nat} {tpos : Pos} (a e it : Addr) (hat : a ≠ it) :
    Turn P w K (.Tuple elts kk tpos) (IteT K a) [e, it] e (fun i h => (∃ old, IsEnum h e it ((i : Nat) : Int) old) ∧ h.IsTupleIter it a i ∧ e ≠ it ∧ e ≠ a) where
  mem := List.mem_cons_self ..
  obj := fun i h st b hb => by
    obtain ⟨⟨old, he⟩, ⟨o, ho, hc, hd⟩, _⟩ := st
    rcases List.mem_cons.mp hb with rfl | hb
    · exact ⟨_, he, fun v q => nomatch q⟩
    · rw [List.mem_singleton.mp hb]
      exact ⟨o, ho, fun v q => by rw [hd] at q; cases q⟩
  keep := fun i h h' st k => by
    obtain ⟨⟨old, he⟩, hi, r⟩ := st
    exact ⟨⟨old, k e (by simp) _ he⟩, hi.at fun o q => k it (by simp) o q, r⟩
  item := by
    intro X hP hw hK hc i pins s σ H E I hf st hg
    subst hP hw hK
    obtain ⟨⟨old, he⟩, hit, hne, hea⟩ := st
    obtain ⟨xs, x, hq, hx⟩ := hg
    obtain ⟨its, rv, p, hz⟩ := I.tuple hq
    obtain ⟨u, hu, ru⟩ := rv.get hx
    have hel : e < s.heap.objs.size := Heap.lt_size he
    have hil : it < s.heap.objs.size := by obtain ⟨_, q, _⟩ := hit; exact Heap.lt_size q
    have hlt : i < its.toArray.size := by
      have q := (List.getElem?_eq_some_iff.mp hu).1
      simpa using q
    refine wpAny_pyNext_enum_itemD (Draws.tuple (prog := X.prog) (w := X.w) (A := X.A.in1) (I.ok.hd hc) it a hat its.toArray) he ⟨hit, p⟩ hlt hne (by simp; exact ⟨hne, hea⟩) fun y h' tk hy ho hit' hT hsz hk => ?_
    have ey : y = u := by
      have q : its[i]? = some y := by simpa using hy
      rw [hu] at q
      exact (Option.some.inj q).symm
    subst ey
    refine ⟨_, rfl, wpAny_letOwnedTupleGo_enum (s := { s with heap := h', toks := tk + 1 }) ho fun h'' he' sb => ?_⟩
    have hT2 : h''.get? s.heap.objs.size = some { cls := .type "tuple", data := .seq #[.int i tk, y] } := (sb.2 _ (Nat.ne_of_gt hel)).trans hT
    have new : ObjOk X.prog X.w (upd H s.heap.objs.size (.tup [.int (i : Nat), x])) h'' s.heap.objs.size (.tup [.int (i : Nat), x]) :=
      ⟨by show 2 ≤ sizeLine; decide, [.int i tk, y], .cons ⟨_, rfl⟩ (.cons ru .nil), ⟨_, hT2, rfl, _, rfl⟩⟩
    have I1 : Inv X pins σ (upd H s.heap.objs.size (.tup [.int (i : Nat), x])) { s with heap := h'', toks := tk + 1 } :=
      I.turnedNew (ch := [e, it]) (fun b ob hb q => (sb.2 b (fun z => hb (by simp [z]))).trans (hk b ob (fun z => hb (by simp [z])) (fun z => hb (by simp [z])) q)) hf (Nat.le_refl _) new
    refine ⟨.ref s.heap.objs.size, _, I1, rfl, ⟨_, x, rfl, I.hok.fresh (Nat.le_refl _), rfl, fun ys hy => by rw [I.tuple_inj hy hq]; exact hx⟩, ⟨⟨y, ?_⟩, hit'.1.at fun o q => (sb.2 it (Ne.symm hne)).trans q, hne, hea⟩, fun b hb => ?_⟩
    · rw [show ((i + 1 : Nat) : Int) = (i : Int) + 1 by omega]
      exact he'
    · have hb' : b < s.heap.objs.size := by
        rcases List.mem_cons.mp hb with z | z
        · rw [z]; exact hel
        · rw [List.mem_singleton.mp z]; exact hil
      rw [upd_ne (Nat.ne_of_lt hb')]
      exact (hf b hb).1
  done := by
    intro X hP hw hK hc i pins s σ H E I hf st hg
    subst hP hw hK
    obtain ⟨⟨old, he⟩, hit, hne, hea⟩ := st
    obtain ⟨xs, hq, hx⟩ := hg
    obtain ⟨its, rv, p, hz⟩ := I.tuple hq
    obtain ⟨f0, f1, f2, f3, f4, f5⟩ := hf it (by simp)
    have hl := rv.length
    have en : i = its.toArray.size := by simp; omega
    refine wpAny_pyNext_enum_endD (Draws.tuple (prog := X.prog) (w := X.w) (A := X.A.in1) (I.ok.hd hc) it a hat its.toArray) he ⟨by rw [← en]; exact hit, p⟩ fun h' eb => ⟨rfl, I.turned (t' := s.toks) (fun b o hb q => eb b o hb q) f0 f1 f3 f4 f5⟩
  self := fun A i s Q E st h => by
    obtain ⟨⟨_, he⟩, _⟩ := st
    exact wpAny_pyIter_enum he h
def iEnumT (K : PySem.W.Frag) (ta : TA) : TI := fun σ H R => ta σ H fun vs H1 => ∃ a xs, vs = [.ref a] ∧ SqT K H1 a xs ∧ R (IteT K a) H1
theorem pi_enumT {X : Cx} {e : Expr} {ta : TA} {p pos tpos : Pos} {elts : List Expr} {kk : Nat} (hg : Gl X "enumerate") (hm : X.mg "enumerate" = none) (ha : PA X [e] ta) (hs : starEach [e] X.env = [(false, eval e X.env)] := by rfl) :
    PI X (.Tuple elts kk tpos) (.Call (.Name "enumerate" p) [e] [] pos) (iEnumT X.K ta) := by
  refine ⟨fun pins s σ H R I hw => Call_ (ld_blt I hg hm boot_enumerate (PyProof.Rows.callWith_type1 (L2.thn (ha.run pos pins s σ H _ I hw) fun us s1 ⟨vs, H1, I1, r1, q1⟩ => ?_) hs rfl))⟩
  obtain ⟨a, xs, ex, hq, q⟩ := q1
  subst ex
  cases r1 with
  | cons r rr =>
    cases rr
    cases r
    obtain ⟨its, rv, p', hz⟩ := I1.tuple hq
    have alt : a < s1.heap.objs.size := p'.lt
    refine call_enumT (its := its.toArray) p' fun h' he hit hk => wpAny_pyIter_enum he ?_
    have I2 : Inv X pins σ H1 { s1 with heap := h' } := I1.kept (t' := s1.toks) hk
    refine ⟨s1.heap.objs.size + 1, [s1.heap.objs.size + 1, s1.heap.objs.size], _, _, H1, rfl, I2, turn_enumT a (s1.heap.objs.size + 1) s1.heap.objs.size (Nat.ne_of_lt alt), ⟨⟨.none, he⟩, hit, Nat.succ_ne_self _, Nat.ne_of_gt (Nat.lt_succ_of_lt alt)⟩, fun b hb => ?_, q⟩
    have hle : s1.heap.objs.size ≤ b := by
      rcases List.mem_cons.mp hb with z | z
      · rw [z]; exact Nat.le_succ _
      · rw [List.mem_singleton.mp z]; exact Nat.le_refl _
    exact I1.fpOk hle (I1.hok.fresh hle)
theorem walk_enumT {K : PySem.W.Frag} {a : Addr} {xs : List V} : Walk (IteT K a) xs.length (fun H => SqT K H a xs) (YPair (fun i => some (.int (i : Nat))) (fun i => xs[i]?)) := by
  refine ⟨fun i _ hi q => ⟨xs, xs[i], q, by simp [hi]⟩, fun _ q => ⟨xs, q, rfl⟩, fun i H v H' _ q y => ?_⟩
  obtain ⟨T, x, h1, h2, h3, h4⟩ := y
  exact ⟨T, .int (i : Nat), x, h1, h2, h3, rfl, h4 xs q⟩
end EO
end
section
set_option Elab.async false
set_option linter.all false
set_option maxRecDepth 100000
set_option maxHeartbeats 2000000
/-! own rules: repr of data, tuple(list) as a known tuple, dict(a tuple of pairs), {t: v} with a tuple t -/
namespace EO
open PySem PySem.Spec PyProof.Rows L2
section
variable {X : Cx}
/-- repr of none, bools, data -/
def rRepr (K : PySem.W.Frag) : List V → Hp → VK → Prop := fun xs H Q =>
  (xs = [.non] ∧ Q (.str "None") H) ∨ (∃ b, xs = [.bl b] ∧ Q (.str (if b then "True" else "False")) H) ∨
    ∃ a d, xs = [.ref a] ∧ Dp K H (.ref a) d ∧ d.showable = true ∧ d.hasDict = false ∧ d.depth ≤ 60 ∧ d.shown.length ≤ sizeLine ∧ Q (.str d.shown) H
theorem cr_repr (hg : X.A.guards = some []) (hu : X.A.units + 64 < cLine) : CallR X (.builtin "repr") (rRepr X.K) := by
  intro pins s σ H xs us Q I r h
  rcases h with ⟨rfl, q⟩ | ⟨b, rfl, q⟩ | ⟨a, d, rfl, hd, hs, hn, hz, hl, q⟩
  · obtain ⟨u, rfl, e⟩ := vals1 r
    cases e
    exact PySem.P.repr_of_none ⟨.str "None", H, I.tok _, ⟨_, rfl⟩, q⟩
  · obtain ⟨u, rfl, e⟩ := vals1 r
    cases e
    exact PySem.P.repr_of_bool ⟨.str _, H, I.tok _, ⟨_, rfl⟩, q⟩
  · obtain ⟨u, rfl, e⟩ := vals1 r
    cases e
    obtain ⟨as, rd⟩ := Dp.reads I d _ _ hd rfl
    exact repr_of_reads' rd hs (fun z => by rw [hn] at z; cases z) hg (by omega) (fun _ _ z => z) (fun h' u tk k => ⟨.str d.shown, H, I.kept (t' := tk) k, ⟨_, rfl⟩, q⟩) hl
/-- tuple(list): the new tuple's object is known -/
theorem cr_tupleF : CallR X (.type "tuple") (fun xs H Q => ∃ p ys, xs = [.ref p] ∧ SqL X.K H p ys ∧ ∀ l o, H l = none → o.cls = .type "tuple" → o.dict = none → Q (.ref l) (upd H l (.frz o (.tup ys)))) := by
  intro pins s σ H xs us Q I r h
  obtain ⟨p, ys, rfl, hq, q⟩ := h
  obtain ⟨u, rfl, e⟩ := vals1 r
  cases e
  obtain ⟨its, rv, pl, hz⟩ := I.list hq
  have hlen := rv.length
  refine call_tuple_list pl.isList (fun h' kp => ?_) (by simp only [List.size_toArray]; omega)
  have I1 : Inv X pins σ H { s with heap := h' } := I.kept (t' := s.toks) kp
  have g1 : (h'.push { cls := .type "tuple", data := .seq its.toArray }).get? h'.objs.size = some { cls := .type "tuple", data := .seq its.toArray } := Heap.get?_push_size _ rfl
  have new : ObjOk X.prog X.w (upd H h'.objs.size (.frz { cls := .type "tuple", data := .seq its.toArray } (.tup ys))) (h'.push { cls := .type "tuple", data := .seq its.toArray }) h'.objs.size (.frz { cls := .type "tuple", data := .seq its.toArray } (.tup ys)) :=
    ⟨g1, hz, its, rv, IsTup.new _ _⟩
  exact ⟨.ref h'.objs.size, _, I1.laid (t' := s.toks) (fun b o z => Heap.get?_push_of_some _ z) (Nat.le_refl _) new, rfl, q _ _ (I1.hok.fresh (Nat.le_refl _)) rfl rfl⟩
/-- dict(t), t a known tuple of pairs -/
theorem cr_dictT (hcalm : X.calm = true) : CallR X (.type "dict") (fun xs H Q => ∃ (a : Addr) (o : Obj) (ps : List Addr) (kvs : List (Key × V)), xs = [.ref a] ∧ H a = some (.frz o (.tup (ps.map V.ref))) ∧ o.cls = .type "tuple" ∧ o.dict = none ∧
    Paired (fun p kv => SqT X.K H p [kV kv.1, kv.2]) ps kvs ∧ ∀ p, H p = none → Q (.ref p) (upd H p (.dK (mergeK [] kvs)))) := by
  intro pins s σ H xs us Q I r h
  obtain ⟨a, o, ps, kvs, rfl, ha, hc, hd, hp, q⟩ := h
  obtain ⟨u, rfl, e⟩ := vals1 r
  cases e
  obtain ⟨ho, hz, its, rv, o2, ho2, hc2, n, hdat⟩ := (show ObjOk X.prog X.w H s.heap a (.frz o (.tup (ps.map V.ref))) from I.hok a _ ha)
  rw [ho] at ho2
  cases ho2
  have ei := refs_at rv
  subst ei
  rw [List.length_map] at hz
  obtain ⟨prs, rel, hl, hpr⟩ := pairs_of I hp
  -- the pairs as values
  have hb : ∀ j, j < prs.length → ∃ b u q, ps[j]? = some b ∧ prs[j]? = some q ∧ IsTup s.heap b #[u, q.2] ∧ keyIs q.1 u = true := fun j hj => by
    obtain ⟨b, u, e1, e2, e3⟩ := hpr j prs[j] (List.getElem?_eq_getElem hj)
    exact ⟨b, u, prs[j], e1, List.getElem?_eq_getElem hj, e2, e3⟩
  have ex : ∃ f : Nat → Value, ∀ j (q : Key × Value), prs[j]? = some q → ∃ b, ps[j]? = some b ∧ IsTup s.heap b #[f j, q.2] ∧ keyIs q.1 (f j) = true := by
    refine ⟨fun j => if h : j < prs.length then Classical.choose (Classical.choose_spec (hb j h)) else .none, fun j q e => ?_⟩
    have hj : j < prs.length := (List.getElem?_eq_some_iff.mp e).1
    have sp := Classical.choose_spec (Classical.choose_spec (hb j hj))
    obtain ⟨q', e1, e2, e3, e4⟩ := sp
    rw [e] at e2
    cases e2
    refine ⟨_, e1, ?_, ?_⟩
    · simpa [hj] using e3
    · simpa [hj] using e4
  obtain ⟨f, hf⟩ := ex
  let vps : List (Value × Value) := (List.range prs.length).map fun j => (f j, (prs.getD j (.inl 0, .none)).2)
  have vat : ∀ j k v, vps[j]? = some (k, v) → ∃ q, prs[j]? = some q ∧ k = f j ∧ v = q.2 := fun j k v e => by
    have hj : j < prs.length := by
      have := (List.getElem?_eq_some_iff.mp e).1
      simpa [vps] using this
    have e2 : vps[j]? = some (f j, (prs.getD j (.inl 0, .none)).2) := by simp [vps, hj]
    rw [e2] at e
    cases e
    exact ⟨prs[j], List.getElem?_eq_getElem hj, rfl, by simp [List.getD, hj]⟩
  have vlen : vps.length = prs.length := by simp [vps]
  refine PySem.call_dict_pairs (knd := mixKind X.prog X.w) (kvs := prs) (PairArg.tuple (prog := X.prog) (w := X.w) a (ps.map Value.ref).toArray (fun j => (ps.getD j 0)) vps) (I.ok.hd hcalm)
    ⟨⟨o, n, ho, hc, hd, hdat⟩, ⟨by simp [vlen, hl], fun j k v e => ?_⟩⟩ ⟨vlen.symm, fun i key v e => ?_⟩ (by rw [vlen, hl]; exact hz) fun h' tk hd' k => ?_
  · obtain ⟨q, e1, rfl, rfl⟩ := vat j k v e
    obtain ⟨b, e2, e3, e4⟩ := hf j q e1
    have eb : ps.getD j 0 = b := by simp [List.getD, e2]
    refine ⟨by simp [e2, eb], ?_⟩
    show PairAt s.heap (ps.getD j 0) (f j) q.2
    rw [eb]
    exact .inl e3
  · obtain ⟨q, e1, rfl, rfl⟩ := vat i key v e
    obtain ⟨b, e2, e3, e4⟩ := hf i q e1
    exact ⟨q.1, e1, e4⟩
  · have hm : (s.heap.objs.size == sysModules) = false := beq_eq_false_iff_ne.mpr (Nat.ne_of_gt I.big)
    have hlen : (mergeK [] kvs).length ≤ sizeLine := by
      refine Nat.le_trans (length_mergeK kvs []) ?_
      rw [List.length_nil, Nat.zero_add, rel.length, hl]
      exact hz
    exact ⟨.ref s.heap.objs.size, _, I.laid (t' := tk) (fun b ob z => k b ob (by simp) z) (Nat.le_refl _) (show ObjOk X.prog X.w _ _ _ (.dK (mergeK [] kvs)) from ⟨hlen, hm, _, KV.merge rel .nil, hd'⟩), rfl, q _ (I.hok.fresh (Nat.le_refl _))⟩
/-- {t: v}, t a tuple of ints and texts -/
def tDispT (tk tv : TE) : TE := fun σ H Q => ∀ p, H p = none → tk σ (upd H p (.dT [])) fun x H1 => tv σ H1 fun y H2 => ∃ b ks, x = .ref b ∧ H2 b = some (.tup (ks.map kV)) ∧ H2 p = some (.dT []) ∧ Q (.ref p) (upd H2 p (.dT [(ks, y)]))
theorem pe_dispT {k v : Expr} {tk tv : TE} {pos : Pos} (hu : X.A.units + 1 < cLine) (hk : PE X k tk) (hv : PE X v tv) : PE X (.Dict [some k] [v] pos) (tDispT tk tv) := by
  refine ⟨fun pins s σ H Q I h => ?_⟩
  have hn := I.hok.fresh (Nat.le_refl s.heap.objs.size)
  have I1 := I.laid (a := s.heap.objs.size) (o := .dT []) (h' := s.heap.push { cls := .type "dict", data := .dict #[] }) (t' := s.toks) (fun _ _ q => Heap.get?_push_of_some _ q) (Nat.le_refl _) (dt_empty s.heap I.big)
  have shape := zip_pairTrees [some k] [v] X.env pos rfl rfl
  have one : (pairTrees [some k] [v] X.env pos).length = 1 := pairTrees_length [some k] [v] X.env pos rfl rfl
  have nil0 : pairTrees [some k] [v] X.env pos ≠ [] := fun z => by rw [z] at one; cases one
  rw [arm_eval_Dict, shape, dictDisplay_pairs (pairTrees [some k] [v] X.env pos) nil0 (by rw [one]; decide)]
  refine wpAny_bind (wpAny_standAt (wpAny_bind (wpAny_subDictH (knd := tupleKind (mixKind X.prog X.w)) (show X.A.units < cLine by omega) (by rw [one]; decide) ?_)))
  refine pairTrees_cons_walk (L2.thn (hk.run pins _ σ _ _ I1 (h _ hn)) fun u s1 ⟨x, H1, J1, rx, q1⟩ => L2.thn (hv.run pins s1 σ H1 _ J1 q1) fun u2 s2 ⟨y, H2, J2, ry, q2⟩ => pairTrees_nil_walk ?_)
  obtain ⟨b, ks, rfl, eb, ep, q⟩ := q2
  cases rx
  obtain ⟨z, hd, xs0, r0, dd⟩ := dt_of J2.hok ep
  cases r0
  refine ⟨[(ks, b, u2)], ⟨rfl, rfl, key_of J2.hok eb, True.intro⟩, dd, fun h' tk dd' hs => wpAny_pure ?_⟩
  have nbp : b ≠ s.heap.objs.size := ne_of eb ep (fun z => nomatch z)
  obtain ⟨o, es, ep', ho, h2, h3, h4, _, h5⟩ := dd'
  refine ⟨.ref s.heap.objs.size, _, d_write (t' := tk) (ob := .dT [(ks, y)]) J2 (by rw [ep]; exact True.intro) hs ⟨o, ho⟩ (show ObjOk X.prog X.w (upd H2 s.heap.objs.size (.dT [(ks, y)])) h' s.heap.objs.size (.dT [(ks, y)]) from ⟨by show 1 ≤ sizeLine; decide, hd, [(ks, b, u2)], .cons ⟨rfl, by rw [upd_ne nbp]; exact eb, ry⟩ .nil, o, es, ep', ho, h2, h3, h4, h5⟩), rfl, q⟩
end
end EO
end
section
set_option Elab.async false
set_option linter.all false
set_option maxRecDepth 100000
set_option maxHeartbeats 1000000
/-! values of any kind; the small tests -/
namespace EO
open PySem PySem.Spec PyProof.Rows L2
def abc : Str := "abcdefghijklmnopqrstuvwxyz"
/-- what the top has written -/
structure Txt (K : PySem.W.Frag) (mg : Str → Option Value) (CM : Addr) : Prop where
  len : mg "len" = none
  isinstance : mg "isinstance" = none
  tuple : mg "tuple" = none
  list : mg "list" = none
  range : mg "range" = none
  int : mg "int" = none
  str : mg "str" = none
  bool : mg "bool" = none
  dict : mg "dict" = none
  set : mg "set" = none
  enumerate : mg "enumerate" = none
  abs : mg "abs" = none
  all : mg "all" = none
  max : mg "max" = none
  min : mg "min" = none
  repr : mg "repr" = none
  LETTERS : ∃ u, mg "LETTERS" = some u ∧ RelV (.str abc) u
  LONGEST : ∃ u, mg "LONGEST" = some u ∧ RelV (.int 8) u
  MOST_STATES : ∃ u, mg "MOST_STATES" = some u ∧ RelV (.int 49) u
  MOST_DEEDS : ∃ u, mg "MOST_DEEDS" = some u ∧ RelV (.int 8) u
  MOST_TIMES : ∃ u, mg "MOST_TIMES" = some u ∧ RelV (.int 1000000000000000000) u
  DEEPEST : ∃ u, mg "DEEPEST" = some u ∧ RelV (.int 8) u
  MOST_BREACHED : ∃ u, mg "MOST_BREACHED" = some u ∧ RelV (.int 300) u
  cl : Cls K CM
  ha : PySem.W.findIn K (.ref CM) "__class__" = some (some (.builtin "object.__class__"))
  hn : PySem.W.specialIn K (.builtin "object.__class__") "__get__" = some (some (.builtin "getset_descriptor.__get__"))
  htk : PySem.W.takesIn K (.builtin "object.__class__") = some true
  hm : PySem.W.mroIn K CM (.type "object") = some true
  nt : PySem.W.kitOne K (.ref CM) (.type "tuple") = some false
/-! a value of any kind: a list is told as an empty one, the machine as a dict -/
mutual
inductive Rp (CM : Addr) (H : Hp) : V → PyData → Prop
  | non : Rp CM H .non .none
  | bl (b : Bool) : Rp CM H (.bl b) (.bool b)
  | int (i : Int) : Rp CM H (.int i) (.int i)
  | str (x : Str) : Rp CM H (.str x) (.str x)
  | tup {a : Addr} {xs : List V} {ds : List PyData} (h : H a = some (.tup xs)) (r : RpAll CM H xs ds) : Rp CM H (.ref a) (.tuple ds)
  | lst {a : Addr} {xs : List V} (h : H a = some (.lst xs)) : Rp CM H (.ref a) (.list [])
  | ins {a dx : Addr} {fs : List (Str × V)} (h : H a = some (.ins CM dx fs)) : Rp CM H (.ref a) (.dict [])
inductive RpAll (CM : Addr) (H : Hp) : List V → List PyData → Prop
  | nil : RpAll CM H [] []
  | cons {v : V} {vs : List V} {d : PyData} {ds : List PyData} (a : Rp CM H v d) (b : RpAll CM H vs ds) : RpAll CM H (v :: vs) (d :: ds)
end
/-- tuples, lists, machines stay what they are -/
structure KX (CM : Addr) (H H' : Hp) : Prop where
  t : KT H H'
  l : ∀ b xs, H b = some (.lst xs) → ∃ ys, H' b = some (.lst ys)
  i : ∀ b dx fs, H b = some (.ins CM dx fs) → ∃ dx' fs', H' b = some (.ins CM dx' fs')
section
variable {CM : Addr} {H H' : Hp}
theorem kx (s : Same H H') : KX CM H H' := ⟨kt s, fun b xs e => ⟨xs, s _ _ e⟩, fun b dx fs e => ⟨dx, fs, s _ _ e⟩⟩
theorem KX.trans {H1 : Hp} (a : KX CM H H1) (b : KX CM H1 H') : KX CM H H' := ⟨a.t.trans b.t, fun c xs e => let ⟨_, q⟩ := a.l c xs e; b.l c _ q, fun c dx fs e => let ⟨_, _, q⟩ := a.i c dx fs e; b.i c _ _ q⟩
theorem kx_lst {p : Addr} {xs ys : List V} (h : H p = some (.lst xs)) : KX CM H (upd H p (.lst ys)) := ⟨kt_lst h, fun b zs e => by
    by_cases hb : b = p
    · rw [hb]; exact ⟨ys, upd_same⟩
    · rw [upd_ne hb]; exact ⟨zs, e⟩, fun b dx fs e => ⟨dx, fs, by rw [upd_ne (fun z => by rw [z, h] at e; cases e)]; exact e⟩⟩
mutual
theorem Rp.mono (k : KX CM H H') : ∀ {v : V} {d : PyData}, Rp CM H v d → Rp CM H' v d
  | _, _, .non => .non
  | _, _, .bl b => .bl b
  | _, _, .int i => .int i
  | _, _, .str x => .str x
  | _, _, .tup h r => .tup (k.t _ _ h) (r.mono k)
  | _, _, .lst h => let ⟨_, q⟩ := k.l _ _ h; .lst q
  | _, _, .ins h => let ⟨_, _, q⟩ := k.i _ _ _ h; .ins q
theorem RpAll.mono (k : KX CM H H') : ∀ {v : List V} {d : List PyData}, RpAll CM H v d → RpAll CM H' v d
  | _, _, .nil => .nil
  | _, _, .cons a b => .cons (a.mono k) (b.mono k)
end
theorem RpAll.al {vs : List V} {ds : List PyData} (h : RpAll CM H vs ds) : Al (Rp CM H) vs ds := by
  induction h using RpAll.rec (motive_1 := fun _ _ _ => True) with
  | nil => exact Al.nil
  | cons a b _ ih => exact Al.cons a ih
  | _ => trivial
theorem RpAll.of : ∀ {vs : List V} {ds : List PyData}, Al (Rp CM H) vs ds → RpAll CM H vs ds
  | [], [], _ => .nil
  | [], _ :: _, h => absurd h.1 (by simp)
  | _ :: _, [], h => absurd h.1 (by simp)
  | v :: vs, d :: ds, h => by
    obtain ⟨v', us, e, r, q⟩ := h.uncons
    cases e
    exact .cons r (.of q)
end
/-! what kind -/
def isI : PyData → Bool
  | .int _ => true
  | _ => false
def isT : PyData → Bool
  | .tuple _ => true
  | _ => false
def isS : PyData → Bool
  | .str _ => true
  | _ => false
def isD : PyData → Bool
  | .dict _ => true
  | _ => false
section
variable {K : PySem.W.Frag} {mg : Str → Option Value} {CM : Addr} {H : Hp} {v : V} {d : PyData}
def tyOf : PyData → String
  | .none => "NoneType" | .bool _ => "bool" | .int _ => "int" | .str _ => "str" | .tuple _ => "tuple" | .list _ => "list" | .dict _ => "dict"
theorem Rp.ty (h : Rp CM H v d) (n : isD d = false) : TyX K H v (.type (tyOf d)) := by
  cases h with
  | non => exact .base .non
  | bl b => exact .base (.bl b)
  | int i => exact .base (.int i)
  | str x => exact .base (.str x)
  | tup e _ => exact .base (.tup e)
  | lst e => exact .base (.lst e)
  | ins e => cases n
theorem ty_mem (d : PyData) (n : isD d = false) : tyOf d ∈ ["NoneType", "bool", "int", "str", "tuple", "list"] := by
  cases d with
  | dict _ => cases n
  | _ => simp [tyOf]
theorem kb_tup : ∀ t ∈ ["NoneType", "bool", "int", "str", "tuple", "list"], kitB t "tuple" = some (t == "tuple") := by decide +kernel
theorem kb_str : ∀ t ∈ ["NoneType", "bool", "int", "str", "tuple", "list"], kitB t "str" = some (t == "str") := by decide +kernel
theorem kb_list : ∀ t ∈ ["NoneType", "bool", "int", "str", "tuple", "list"], kitB t "list" = some (t == "list") := by decide +kernel
theorem kb_bool : ∀ t ∈ ["NoneType", "bool", "int", "str", "tuple", "list"], kitB t "bool" = some (t == "bool") := by decide +kernel
theorem kb_int : ∀ t ∈ ["NoneType", "bool", "int", "str", "tuple", "list"], kitB t "int" = some (t == "int" || t == "bool") := by decide +kernel
def isIB : PyData → Bool
  | .int _ => true
  | .bool _ => true
  | _ => false
def isB : PyData → Bool
  | .bool _ => true
  | _ => false
def isL : PyData → Bool
  | .list _ => true
  | _ => false
theorem kit_tup (d : PyData) (n : isD d = false) : PySem.W.kitOne K (.type (tyOf d)) (.type "tuple") = some (isT d) := kit_ty ((kb_tup _ (ty_mem d n)).trans (congrArg some (by cases d <;> rfl)))
theorem kit_str (d : PyData) (n : isD d = false) : PySem.W.kitOne K (.type (tyOf d)) (.type "str") = some (isS d) := kit_ty ((kb_str _ (ty_mem d n)).trans (congrArg some (by cases d <;> rfl)))
theorem kit_list (d : PyData) (n : isD d = false) : PySem.W.kitOne K (.type (tyOf d)) (.type "list") = some (isL d) := kit_ty ((kb_list _ (ty_mem d n)).trans (congrArg some (by cases d <;> rfl)))
theorem kit_bool (d : PyData) (n : isD d = false) : PySem.W.kitOne K (.type (tyOf d)) (.type "bool") = some (isB d) := kit_ty ((kb_bool _ (ty_mem d n)).trans (congrArg some (by cases d <;> rfl)))
theorem kit_int (d : PyData) (n : isD d = false) : PySem.W.kitOne K (.type (tyOf d)) (.type "int") = some (isIB d) := kit_ty ((kb_int _ (ty_mem d n)).trans (congrArg some (by cases d <;> rfl)))
/-- isinstance(.., tuple) of any value -/
theorem Rp.tup_ty (T : Txt K mg CM) (h : Rp CM H v d) : ∃ t, TyX K H v t ∧ PySem.W.kitOne K t (.type "tuple") = some (isT d) := by
  cases e : isD d with
  | false => exact ⟨_, h.ty e, kit_tup d e⟩
  | true =>
    cases h with
    | ins q => exact ⟨_, .base (.ins q T.cl T.ha T.hn T.htk T.hm), T.nt⟩
    | _ => cases e
end
/-! is_integer, is_number, is_below, is_text -/
section
variable {P : Program} {w : World} {K : PySem.W.Frag} {mg : Str → Option Value} {base : Heap} {CM : Addr}
abbrev sc_is_integerN : List Str := ["value"]
theorem sc_is_integer : FnScope sc_is_integerN ["value"] (defScope (topS 14)) := ⟨rfl, rfl, rfl, by decide +kernel, rfl, by decide +kernel, by decide +kernel⟩
def spInt (CM : Addr) : Sp := fun vs H Q _ => ∃ v d, vs = [v] ∧ Rp CM H v d ∧ isD d = false ∧ Q (.bl (isI d)) H
theorem ok_is_integer (D : Dfn K mg "is_integer" (topS 14)) (T : Txt K mg CM) : Fn P w K mg base 1 "is_integer" (spInt CM) := by
  refine fn_by D sc_is_integer (fun _ _ _ _ _ _ us hl => match us, hl with | [_], _ => rfl) (fun vs H Q E h => ?_) (fun f cdv A outer s H vs Q E hr h => ?_)
  · obtain ⟨v, d, rfl, _⟩ := h
    rfl
  · obtain ⟨v, d, rfl, hv, hd, q⟩ := h
    refine ⟨_, (pss_one (ps_ret (pe_and (pe_callB call_isi rfl T.isinstance PyProof.Rows.Boot.«isinstance» (pa_cons (pv 0) (pa_cons (pe_bltn (v := .ty "int") rfl T.int PyProof.Rows.Boot.«int» rfl) pa_nil))) (pe_one (pe_not (pe_callB call_isi rfl T.isinstance PyProof.Rows.Boot.«isinstance» (pa_cons (pv 0) (pa_cons (pe_bltn (v := .ty "bool") rfl T.bool PyProof.Rows.Boot.«bool» rfl) pa_nil)))))))), ?_⟩
    refine ⟨v, rfl, v, .ty "int", .type (tyOf d), .type "int", isIB d, rfl, .ty _, hv.ty hd, kit_int d hd, isIB d, rfl, ite2 (fun e => ?_) (fun e => ?_)⟩
    · refine ⟨v, rfl, v, .ty "bool", .type (tyOf d), .type "bool", isB d, rfl, .ty _, hv.ty hd, kit_bool d hd, isB d, rfl, ?_⟩
      have z : (!isB d) = isI d := by cases d <;> simp_all [isIB, isB, isI]
      rw [z]
      exact q
    · have z : false = isI d := by cases d <;> simp_all [isIB, isI]
      rw [z]
      exact q
abbrev sc_is_numberN : List Str := ["value"]
theorem sc_is_number : FnScope sc_is_numberN ["value"] (defScope (topS 15)) := ⟨rfl, rfl, rfl, by decide +kernel, rfl, by decide +kernel, by decide +kernel⟩
def isN : PyData → Bool
  | .int i => decide (0 ≤ i)
  | _ => false
def spNum (CM : Addr) : Sp := fun vs H Q _ => ∃ v d, vs = [v] ∧ Rp CM H v d ∧ isD d = false ∧ Q (.bl (isN d)) H
theorem ok_is_number (D : Dfn K mg "is_number" (topS 15)) (c_is_integer : Fn P w K mg base 1 "is_integer" (spInt CM)) : Fn P w K mg base 2 "is_number" (spNum CM) := by
  refine fn_by D sc_is_number (fun _ _ _ _ _ _ us hl => match us, hl with | [_], _ => rfl) (fun vs H Q E h => ?_) (fun f cdv A outer s H vs Q E hr h => ?_)
  · obtain ⟨v, d, rfl, _⟩ := h
    rfl
  · obtain ⟨v, d, rfl, hv, hd, q⟩ := h
    refine ⟨_, (pss_one (ps_ret (pe_and (pe_f c_is_integer hr (by decide) rfl (pa_cons (pv 0) pa_nil)) (pe_one (pe_cmpR op_ge (pv 0) pe_int (nomark _)))))), ?_⟩
    refine ⟨v, rfl, v, d, rfl, hv, hd, isI d, rfl, ite2 (fun e => ?_) (fun e => ?_)⟩
    · cases d with
      | int i =>
        cases hv
        exact ⟨.int i, rfl, i, 0, rfl, rfl, q⟩
      | _ => cases e
    · have z : false = isN d := by cases d <;> simp_all [isI, isN]
      rw [z]
      exact q
abbrev sc_is_belowN : List Str := ["value", "bound"]
theorem sc_is_below : FnScope sc_is_belowN ["value", "bound"] (defScope (topS 16)) := ⟨rfl, rfl, rfl, by decide +kernel, rfl, by decide +kernel, by decide +kernel⟩
def isBel (n : Int) : PyData → Bool
  | .int i => decide (0 ≤ i) && decide (i < n)
  | _ => false
def spBelow (CM : Addr) : Sp := fun vs H Q _ => ∃ v d n, vs = [v, .int n] ∧ Rp CM H v d ∧ isD d = false ∧ Q (.bl (isBel n d)) H
theorem ok_is_below (D : Dfn K mg "is_below" (topS 16)) (c_is_integer : Fn P w K mg base 1 "is_integer" (spInt CM)) : Fn P w K mg base 2 "is_below" (spBelow CM) := by
  refine fn_by D sc_is_below (fun _ _ _ _ _ _ us hl => match us, hl with | [_, _], _ => rfl) (fun vs H Q E h => ?_) (fun f cdv A outer s H vs Q E hr h => ?_)
  · obtain ⟨v, d, n, rfl, _⟩ := h
    rfl
  · obtain ⟨v, d, n, rfl, hv, hd, q⟩ := h
    refine ⟨_, (pss_one (ps_ret (pe_and (pe_f c_is_integer hr (by decide) rfl (pa_cons (pv 0) pa_nil)) (pe_one (pe_chain op_le op_lt pe_int (pv 0) (pv 1)))))), ?_⟩
    refine ⟨v, rfl, v, d, rfl, hv, hd, isI d, rfl, ite2 (fun e => ?_) (fun e => ?_)⟩
    · cases d with
      | int i =>
        cases hv
        refine ⟨.int i, rfl, 0, i, rfl, rfl, _, rfl, ite2 (fun e2 => ?_) (fun e2 => ?_)⟩
        · refine ⟨.int n, rfl, i, n, rfl, rfl, ?_⟩
          have z : decide (i < n) = isBel n (.int i) := by
            show _ = (decide (0 ≤ i) && decide (i < n))
            rw [e2, Bool.true_and]
          show Q (.bl (decide (i < n))) H
          rw [z]
          exact q
        · have z : false = isBel n (.int i) := by
            show _ = (decide (0 ≤ i) && decide (i < n))
            have e3 : decide (0 ≤ i) = false := by simpa using e2
            rw [e3, Bool.false_and]
          rw [z]
          exact q
      | _ => cases e
    · have z : false = isBel n d := by cases d <;> simp_all [isI, isBel]
      rw [z]
      exact q
abbrev sc_is_textN : List Str := ["value"]
theorem sc_is_text : FnScope sc_is_textN ["value"] (defScope (topS 17)) := ⟨rfl, rfl, rfl, by decide +kernel, rfl, by decide +kernel, by decide +kernel⟩
def spText (CM : Addr) : Sp := fun vs H Q _ => ∃ v d, vs = [v] ∧ Rp CM H v d ∧ isD d = false ∧ Q (.bl (isS d)) H
theorem ok_is_text (D : Dfn K mg "is_text" (topS 17)) (T : Txt K mg CM) : Fn P w K mg base 1 "is_text" (spText CM) := by
  refine fn_by D sc_is_text (fun _ _ _ _ _ _ us hl => match us, hl with | [_], _ => rfl) (fun vs H Q E h => ?_) (fun f cdv A outer s H vs Q E hr h => ?_)
  · obtain ⟨v, d, rfl, _⟩ := h
    rfl
  · obtain ⟨v, d, rfl, hv, hd, q⟩ := h
    refine ⟨_, (pss_one (ps_ret (pe_callB call_isi rfl T.isinstance PyProof.Rows.Boot.«isinstance» (pa_cons (pv 0) (pa_cons (pe_bltn (v := .ty "str") rfl T.str PyProof.Rows.Boot.«str» rfl) pa_nil))))), ?_⟩
    exact ⟨v, rfl, v, .ty "str", .type (tyOf d), .type "str", isS d, rfl, .ty _, hv.ty hd, kit_str d hd, q⟩
abbrev sc_is_sequenceN : List Str := ["value"]
theorem sc_is_sequence : FnScope sc_is_sequenceN ["value"] (defScope (topS 18)) := ⟨rfl, rfl, rfl, by decide +kernel, rfl, by decide +kernel, by decide +kernel⟩
def spSeq (CM : Addr) : Sp := fun vs H Q _ => ∃ v d, vs = [v] ∧ Rp CM H v d ∧ isD d = false ∧ ∀ H', Same H H' → Q (.bl (isL d || isT d)) H'
theorem ok_is_sequence (D : Dfn K mg "is_sequence" (topS 18)) (T : Txt K mg CM) : Fn P w K mg base 1 "is_sequence" (spSeq CM) := by
  refine fn_by D sc_is_sequence (fun _ _ _ _ _ _ us hl => match us, hl with | [_], _ => rfl) (fun vs H Q E h => ?_) (fun f cdv A outer s H vs Q E hr h => ?_)
  · obtain ⟨v, d, rfl, _⟩ := h
    rfl
  · obtain ⟨v, d, rfl, hv, hd, q⟩ := h
    refine ⟨_, (pss_one (ps_ret (pe_callB call_isiT rfl T.isinstance PyProof.Rows.Boot.«isinstance» (pa_cons (pv 0) (pa_cons (pe_tup (pa_cons (pe_bltn (v := .ty "list") rfl T.list PyProof.Rows.Boot.«list» rfl) (pa_cons (pe_bltn (v := .ty "tuple") rfl T.tuple PyProof.Rows.Boot.«tuple» rfl) pa_nil))) pa_nil))))), ?_⟩
    refine ⟨v, rfl, by show 2 ≤ sizeLine; decide, fun p hp => ?_⟩
    refine ⟨v, p, [.ty "list", .ty "tuple"], .type (tyOf d), [.type "list", .type "tuple"], isL d || isT d, rfl, upd_same, .cons (.ty _) (.cons (.ty _) .nil), (hv.mono (kx (same_new hp))).ty hd, ?_, q _ (same_new hp)⟩
    refine kitAny_cons (kit_list d hd) (fun e => kitAny_cons (kit_tup d hd) (fun e2 => ?_) (fun e2 => ?_)) (fun e => ?_)
    · rw [e, e2]; exact kitAny_nil
    · rw [e, e2]; rfl
    · rw [e]; rfl
/-! is_name -/
def ltr (c : Nat) : Bool := decide (c ∈ abc.cps.toList)
def nmS (x : Str) : Bool := decide (1 ≤ x.length) && (decide (x.length ≤ 8) && x.cps.toList.all ltr)
def nmD : PyData → Bool
  | .str x => nmS x
  | _ => false
abbrev sc_is_nameN : List Str := ["value", "sign"]
theorem sc_is_name : FnScope sc_is_nameN ["value"] (defScope (topS 19)) := ⟨rfl, rfl, rfl, by decide +kernel, rfl, by decide +kernel, by decide +kernel⟩
def spName (CM : Addr) : Sp := fun vs H Q _ => ∃ v d, vs = [v] ∧ Rp CM H v d ∧ isD d = false ∧ (∀ x, d = .str x → x.length ≤ 1000) ∧ ∀ H', Same H H' → Q (.bl (nmD d)) H'
theorem ok_is_name (D : Dfn K mg "is_name" (topS 19)) (T : Txt K mg CM) (c_is_text : Fn P w K mg base 1 "is_text" (spText CM)) : Fn P w K mg base 2 "is_name" (spName CM) := by
  refine fn_by D sc_is_name (fun _ _ _ _ _ _ us hl => match us, hl with | [_], _ => rfl) (fun vs H Q E h => ?_) (fun f cdv A outer s H vs Q E hr h => ?_)
  · obtain ⟨v, d, rfl, _⟩ := h
    rfl
  · obtain ⟨v, d, rfl, hv, hd, hl, q⟩ := h
    refine ⟨_, (pss_one (ps_ret (pe_and (pe_f c_is_text hr (by decide) rfl (pa_cons (pv 0) pa_nil)) (pe_and (pe_chain op_le op_le pe_int (pe_callB call_len_str rfl T.len PySem.boot_len (pa_cons (pv 0) pa_nil)) (pe_k rfl T.LONGEST)) (pe_one (pe_callB (cr_all rfl) rfl T.all PyProof.Rows.Boot.«all» (pa_cons (pe_lc (own := [("sign", 1)]) rfl sc_is_name.nd (pi_str (pv 0)) (blkOk_by (N := sc_is_nameN) (sc := defScope (topS 19)) (by decide +kernel)) (fun _ _ _ _ _ => (pg_name (i := 1) sc_is_name.nd rfl (Or.inl rfl))) (fun _ _ _ _ _ => pts_nil) (fun _ _ _ _ _ => (pe_cmpR op_in_sign (pv 1) (pe_k rfl T.LETTERS) (by rfl)))) pa_nil))))))), ?_⟩
    refine ⟨v, rfl, v, d, rfl, hv, hd, isS d, rfl, ite2 (fun e => ?_) (fun e => ?_)⟩
    · cases d with
      | str x =>
        cases hv
        have hx := hl x rfl
        have hxl : x.length ≤ sizeLine := sz (by omega)
        refine ⟨.str x, rfl, x, rfl, hxl, 1, x.length, rfl, rfl, _, rfl, ?_⟩
        have qq : ∀ b : Bool, ∀ H', Same H H' → (nmS x = b) → Q (.bl b) H' := fun b H' sm e => by rw [← e]; exact q H' sm
        refine ite2 (fun e1 => ?_) (fun e1 => ?_)
        · have e1' : decide (1 ≤ x.length) = true := by
            have := of_decide_eq_true e1
            exact decide_eq_true (by omega)
          refine ⟨x.length, 8, rfl, rfl, _, rfl, ite2 (fun e2 => ?_) (fun e2 => ?_)⟩
          · have e2' : decide (x.length ≤ 8) = true := by
              have := of_decide_eq_true e2
              exact decide_eq_true (by omega)
            -- all([sign in LETTERS for sign in value])
            refine ⟨.str x, rfl, x, rfl, fun Dl hD => lc_it walk_str (fun i H' => Same H H' ∧ H' Dl = some (.lst ((x.cps.toList.take i).map fun c => .bl (ltr c)))) ⟨same_new hD, upd_same⟩ (fun _ _ _ _ => True.intro) ?_ ?_⟩
            · rintro i y H1 H2 hi ⟨sm, eD⟩ ⟨rfl, c, hc, rfl⟩
              refine ⟨rfl, ?_⟩
              refine ⟨_, rfl, c, abc, rfl, rfl, _, eD, ?_, same_at sm hD, ?_⟩
              · rw [List.length_map, List.length_take]
                refine Nat.lt_of_le_of_lt (Nat.min_le_right _ _) (szl ?_)
                have : x.cps.toList.length = x.length := by simp [Str.length]
                omega
              · rw [upd_same]
                have hc' : x.cps.toList[i]? = some c := by simpa using hc
                rw [List.take_add_one, hc', List.map_append]
                rfl
            · rintro H2 ⟨sm, eD⟩
              refine ⟨Dl, x.cps.toList.map ltr, rfl, SqL.of ?_, qq _ _ sm ?_⟩
              · rw [eD, List.take_of_length_le (by simp), List.map_map]
                rfl
              · unfold nmS
                rw [e1', e2', Bool.true_and, Bool.true_and, List.all_map]
                rfl
          · refine qq _ _ (Same.refl H) ?_
            have e2' : decide (x.length ≤ 8) = false := decide_eq_false (fun z => e2 (decide_eq_true (by omega)))
            unfold nmS
            rw [e2', Bool.false_and, Bool.and_false]
        · refine ⟨false, rfl, ?_⟩
          show Q (.bl false) H
          refine qq _ _ (Same.refl H) ?_
          have e1' : decide (1 ≤ x.length) = false := decide_eq_false (fun z => e1 (decide_eq_true (by omega)))
          unfold nmS
          rw [e1', Bool.false_and]
      | _ => cases e
    · have z : false = nmD d := by cases d <;> simp_all [isS, nmD]
      rw [z]
      exact q _ (Same.refl H)
end
end EO
end
section
set_option Elab.async false
set_option linter.all false
set_option maxRecDepth 100000
set_option maxHeartbeats 1000000
/-! then, stills, first unlike, powers -/
namespace EO
open PySem PySem.Spec PyProof.Rows L2
def stl (e : Eff) : List Nat := (List.range e.length).filter fun i => decide (ap e i = i)
def Ls (H : Hp) (v : V) (e : List Nat) : Prop := ∃ a, v = .ref a ∧ H a = some (.lst (vns e))
theorem Ef.sm {H H' : Hp} {v : V} {e : List Nat} (h : Ef H v e) (s : Same H H') : Ef H' v e := h.kt (EO.kt s)
theorem Rw.sm {H H' : Hp} {v : V} {e : List Str} (h : Rw H v e) (s : Same H H') : Rw H' v e := h.kt (EO.kt s)
theorem Ls.sm {H H' : Hp} {v : V} {e : List Nat} (h : Ls H v e) (s : Same H H') : Ls H' v e := let ⟨a, p, q⟩ := h; ⟨a, p, s _ _ q⟩
theorem take_thn {e g : Eff} {i : Nat} (h : i < e.length) : vns ((thn e g).take (i + 1)) = vns ((thn e g).take i) ++ [vn (ap g (ap e i))] := by
  have z : (thn e g)[i]? = some (ap g (ap e i)) := by
    unfold thn
    rw [List.getElem?_map, ap_get h]; rfl
  rw [List.take_add_one, z, vns, List.map_append]; rfl
theorem vns_snoc (l : List Nat) (i : Nat) : vns l ++ [V.int (i : Int)] = vns (l ++ [i]) := by simp [vns, vn]
theorem lt_of_mem {e : Eff} {n i : Nat} (h : ∀ x ∈ e, x < n) (hi : i < e.length) : ap e i < n := h _ (List.mem_of_getElem? (ap_get hi))
theorem pg_tupC {X : Cx} {K : PySem.W.Frag} {es : List Expr} {k : Nat} {pos : Pos} {t : TGs} {n : Nat} (hK : X.K = K) (hc : X.calm = true) (h : PGs X es t)
    (hn : (assignEach es X.env).length = n := by rfl) (hst : (assignEach es X.env).findIdx? (·.1) = none := by rfl) : PG X (.Tuple es k pos) (gTup K n t) := by
  subst hK
  exact pg_tup hc h hn hst
section
variable {P : Program} {w : World} {K : PySem.W.Frag} {mg : Str → Option Value} {base : Heap} {CM : Addr}
def spThen : Sp := fun vs H Q _ => ∃ v u e g, vs = [v, u] ∧ Ef H v e ∧ Ef H u g ∧ (∀ x ∈ e, x < g.length) ∧ e.length ≤ 1000 ∧ ∀ H' r, Same H H' → Ef H' r (thn e g) → Q r H'
abbrev sc_effect_thenN : List Str := ["one", "other", "state"]
theorem sc_effect_then : FnScope sc_effect_thenN ["one", "other"] (defScope (topS 31)) := ⟨rfl, rfl, rfl, by decide +kernel, rfl, by decide +kernel, by decide +kernel⟩
theorem ok_effect_then (D : Dfn K mg "effect_then" (topS 31)) (T : Txt K mg CM) : Fn P w K mg base 1 "effect_then" spThen := by
  refine fn_by D sc_effect_then (fun _ _ _ _ _ _ us hl => match us, hl with | [_, _], _ => rfl) (fun vs H Q E h => ?_) (fun f cdv A outer s H vs Q E hr h => ?_)
  · obtain ⟨v, u, e, g, rfl, _⟩ := h
    rfl
  · obtain ⟨v, u, e, g, rfl, ⟨a, rfl, ha⟩, ⟨b, rfl, hb⟩, hx, hl, q⟩ := h
    refine ⟨_, (pss_one (ps_ret (pe_callTy call_tuple_of rfl T.tuple PyProof.Rows.Boot.«tuple» (pa_cons (pe_lc (own := [("state", 2)]) rfl sc_effect_then.nd (pi_tup (pv 0)) (blkOk_by (N := sc_effect_thenN) (sc := defScope (topS 31)) (by decide +kernel)) (fun _ _ _ _ _ => (pg_name (i := 2) sc_effect_then.nd rfl (Or.inl rfl))) (fun _ _ _ _ _ => pts_nil) (fun _ _ _ _ _ => (pe_ix (ix_tup : IxR _ (rIxT K)) (pv 1) (pv 2) (fun _ _ => rfl)))) pa_nil)))), ?_⟩
    refine ⟨.ref a, rfl, a, rfl, ⟨_, SqT.of ha⟩, fun Dl hD => lc_it walk_tup (fun i H' => Same H H' ∧ H' Dl = some (.lst (vns ((thn e g).take i)))) ⟨same_new hD, upd_same⟩ (fun _ _ _ p => SqT.of (p.1 _ _ ha)) ?_ ?_⟩
    · rintro i y H1 H2 hi ⟨sm, eD⟩ ⟨rfl, hy⟩
      obtain ⟨hie, rfl⟩ := vns_at hy
      refine ⟨rfl, .ref b, rfl, _, rfl, b, _, _, _, rfl, rfl, SqT.of (sm _ _ hb), at_vn (lt_of_mem hx hie), _, eD, ?_, same_at sm hD, ?_⟩
      · rw [List.length_map, List.length_take]
        exact Nat.lt_of_le_of_lt (Nat.min_le_left _ _) (szl (by omega))
      · rw [upd_same, take_thn hie]
    · rintro H2 ⟨sm, eD⟩
      have eD' : H2 Dl = some (.lst (vns (thn e g))) := by
        rw [eD, List.take_of_length_le (by simp [thn])]
      refine ⟨Dl, _, rfl, .inl ⟨SqL.of eD', fun l hl => q _ _ (sm.trans (same_new hl)) ⟨l, rfl, upd_same⟩⟩⟩
abbrev sc__law_thenN : List Str := ["_law_one", "_law_other", "_law_state"]
theorem sc__law_then : FnScope sc__law_thenN ["_law_one", "_law_other"] (defScope (topS 52)) := ⟨rfl, rfl, rfl, by decide +kernel, rfl, by decide +kernel, by decide +kernel⟩
theorem ok__law_then (D : Dfn K mg "_law_then" (topS 52)) (T : Txt K mg CM) : Fn P w K mg base 1 "_law_then" spThen := by
  refine fn_by D sc__law_then (fun _ _ _ _ _ _ us hl => match us, hl with | [_, _], _ => rfl) (fun vs H Q E h => ?_) (fun f cdv A outer s H vs Q E hr h => ?_)
  · obtain ⟨v, u, e, g, rfl, _⟩ := h
    rfl
  · obtain ⟨v, u, e, g, rfl, ⟨a, rfl, ha⟩, ⟨b, rfl, hb⟩, hx, hl, q⟩ := h
    refine ⟨_, (pss_one (ps_ret (pe_callTy call_tuple_of rfl T.tuple PyProof.Rows.Boot.«tuple» (pa_cons (pe_lc (own := [("_law_state", 2)]) rfl sc__law_then.nd (pi_tup (pv 0)) (blkOk_by (N := sc__law_thenN) (sc := defScope (topS 52)) (by decide +kernel)) (fun _ _ _ _ _ => (pg_name (i := 2) sc__law_then.nd rfl (Or.inl rfl))) (fun _ _ _ _ _ => pts_nil) (fun _ _ _ _ _ => (pe_ix (ix_tup : IxR _ (rIxT K)) (pv 1) (pv 2) (fun _ _ => rfl)))) pa_nil)))), ?_⟩
    refine ⟨.ref a, rfl, a, rfl, ⟨_, SqT.of ha⟩, fun Dl hD => lc_it walk_tup (fun i H' => Same H H' ∧ H' Dl = some (.lst (vns ((thn e g).take i)))) ⟨same_new hD, upd_same⟩ (fun _ _ _ p => SqT.of (p.1 _ _ ha)) ?_ ?_⟩
    · rintro i y H1 H2 hi ⟨sm, eD⟩ ⟨rfl, hy⟩
      obtain ⟨hie, rfl⟩ := vns_at hy
      refine ⟨rfl, .ref b, rfl, _, rfl, b, _, _, _, rfl, rfl, SqT.of (sm _ _ hb), at_vn (lt_of_mem hx hie), _, eD, ?_, same_at sm hD, ?_⟩
      · rw [List.length_map, List.length_take]
        exact Nat.lt_of_le_of_lt (Nat.min_le_left _ _) (szl (by omega))
      · rw [upd_same, take_thn hie]
    · rintro H2 ⟨sm, eD⟩
      have eD' : H2 Dl = some (.lst (vns (thn e g))) := by
        rw [eD, List.take_of_length_le (by simp [thn])]
      refine ⟨Dl, _, rfl, .inl ⟨SqL.of eD', fun l hl => q _ _ (sm.trans (same_new hl)) ⟨l, rfl, upd_same⟩⟩⟩
/-! stills -/
theorem stl_step {e : Eff} {i : Nat} : (List.range (i + 1)).filter (fun i => decide (ap e i = i)) = (List.range i).filter (fun i => decide (ap e i = i)) ++ (if ap e i = i then [i] else []) := by
  rw [List.range_succ, List.filter_append]
  congr 1
  by_cases h : ap e i = i
  · simp [h]
  · simp [h]
def spStT : Sp := fun vs H Q _ => ∃ v e, vs = [v] ∧ Ef H v e ∧ e.length ≤ 1000 ∧ ∀ H' r, Same H H' → Ef H' r (stl e) → Q r H'
def spStL : Sp := fun vs H Q _ => ∃ v e, vs = [v] ∧ Ef H v e ∧ e.length ≤ 1000 ∧ ∀ H' r, Same H H' → Ls H' r (stl e) → Q r H'
theorem stl_len (e : Eff) (i : Nat) : (List.filter (fun i => decide (ap e i = i)) (List.range i)).length ≤ i := Nat.le_trans (List.length_filter_le _ _) (by simp)
abbrev sc_still_statesN : List Str := ["effect", "state", "image"]
theorem sc_still_states : FnScope sc_still_statesN ["effect"] (defScope (topS 34)) := ⟨rfl, rfl, rfl, by decide +kernel, rfl, by decide +kernel, by decide +kernel⟩
theorem ok_still_states (D : Dfn K mg "still_states" (topS 34)) (T : Txt K mg CM) : Fn P w K mg base 1 "still_states" spStT := by
  refine fn_by D sc_still_states (fun _ _ _ _ _ _ us hl => match us, hl with | [_], _ => rfl) (fun vs H Q E h => ?_) (fun f cdv A outer s H vs Q E hr h => ?_)
  · obtain ⟨v, e, rfl, _⟩ := h
    rfl
  · obtain ⟨v, e, rfl, ⟨a, rfl, ha⟩, hl, q⟩ := h
    refine ⟨_, (pss_one (ps_ret (pe_callTy call_tuple_of rfl T.tuple PyProof.Rows.Boot.«tuple» (pa_cons (pe_lc (own := [("state", 1), ("image", 2)]) rfl sc_still_states.nd (pi_enumT rfl T.enumerate (pa_cons (pv 0) pa_nil)) (blkOk_by (N := sc_still_statesN) (sc := defScope (topS 34)) (by decide +kernel)) (fun _ _ _ _ _ => (pg_tupC (K := K) (n := 2) rfl rfl (pgs_cons (pg_name (i := 1) sc_still_states.nd rfl (Or.inl rfl)) (pgs_cons (pg_name (i := 2) sc_still_states.nd rfl (Or.inl rfl)) pgs_nil)))) (fun _ _ _ _ _ => (pts_one (pt_cmpR op_eq (pv 2) (pv 1) (nomark _)))) (fun _ _ _ _ _ => (pv 1))) pa_nil)))), ?_⟩
    refine ⟨.ref a, rfl, a, _, rfl, SqT.of ha, fun Dl hD => lc_it walk_enumT (fun i H' => Same H H' ∧ H' Dl = some (.lst (vns ((List.range i).filter fun i => decide (ap e i = i))))) ⟨same_new hD, upd_same⟩ (fun _ _ _ p => SqT.of (p.1 _ _ ha)) ?_ ?_⟩
    · rintro i y H1 H2 hi ⟨sm, eD⟩ ⟨tt, x1, x2, rfl, ht, rfl, hx1, hy⟩
      cases hx1
      obtain ⟨hie, rfl⟩ := vns_at hy
      have sm2 : Same H (upd H1 tt (.tup [.int (i : Nat), vn (ap e i)])) := sm.trans (same_new ht)
      have nt : Dl ≠ tt := ne_of_none eD ht
      have eD2 : upd H1 tt (.tup [.int (i : Nat), vn (ap e i)]) Dl = some (.lst (vns ((List.range i).filter fun i => decide (ap e i = i)))) := by rw [upd_ne nt]; exact eD
      refine ⟨tt, _, rfl, SqT.of upd_same, rfl, _, _, rfl, _, _, rfl, rfl, rfl, ?_⟩
      refine ⟨_, rfl, _, rfl, rfl, _, rfl, ite2 (fun z => ?_) (fun z => ?_)⟩
      · have hz : ap e i = i := by
          have := V.int.inj (of_decide_eq_true z)
          omega
        refine ⟨_, rfl, _, eD2, ?_, same_at sm2 hD, ?_⟩
        · rw [List.length_map]
          exact Nat.lt_of_le_of_lt (stl_len e i) (szl (by omega))
        · rw [upd_same, stl_step, if_pos hz]
          exact congrArg (fun l => some (HO.lst l)) (vns_snoc _ _)
      · have hz : ¬ ap e i = i := fun q => z (decide_eq_true (congrArg (fun n : Nat => V.int (n : Int)) q))
        refine ⟨sm2, ?_⟩
        rw [eD2, stl_step, if_neg hz, List.append_nil]
    · rintro H2 ⟨sm, eD⟩
      have eD' : H2 Dl = some (.lst (vns (stl e))) := by
        rw [eD, List.length_map]
        rfl
      refine ⟨Dl, _, rfl, .inl ⟨SqL.of eD', fun l hl => q _ _ (sm.trans (same_new hl)) ⟨l, rfl, upd_same⟩⟩⟩
abbrev sc__law_stillsN : List Str := ["_law_effect_here", "_law_state", "_law_image"]
theorem sc__law_stills : FnScope sc__law_stillsN ["_law_effect_here"] (defScope (topS 59)) := ⟨rfl, rfl, rfl, by decide +kernel, rfl, by decide +kernel, by decide +kernel⟩
theorem ok__law_stills (D : Dfn K mg "_law_stills" (topS 59)) (T : Txt K mg CM) : Fn P w K mg base 1 "_law_stills" spStL := by
  refine fn_by D sc__law_stills (fun _ _ _ _ _ _ us hl => match us, hl with | [_], _ => rfl) (fun vs H Q E h => ?_) (fun f cdv A outer s H vs Q E hr h => ?_)
  · obtain ⟨v, e, rfl, _⟩ := h
    rfl
  · obtain ⟨v, e, rfl, ⟨a, rfl, ha⟩, hl, q⟩ := h
    refine ⟨_, (pss_one (ps_ret (pe_lc (own := [("_law_state", 1), ("_law_image", 2)]) rfl sc__law_stills.nd (pi_enumT rfl T.enumerate (pa_cons (pv 0) pa_nil)) (blkOk_by (N := sc__law_stillsN) (sc := defScope (topS 59)) (by decide +kernel)) (fun _ _ _ _ _ => (pg_tupC (K := K) (n := 2) rfl rfl (pgs_cons (pg_name (i := 1) sc__law_stills.nd rfl (Or.inl rfl)) (pgs_cons (pg_name (i := 2) sc__law_stills.nd rfl (Or.inl rfl)) pgs_nil)))) (fun _ _ _ _ _ => (pts_one (pt_cmpR op_eq (pv 1) (pv 2) (nomark _)))) (fun _ _ _ _ _ => (pv 1))))), ?_⟩
    refine ⟨.ref a, rfl, a, _, rfl, SqT.of ha, fun Dl hD => lc_it walk_enumT (fun i H' => Same H H' ∧ H' Dl = some (.lst (vns ((List.range i).filter fun i => decide (ap e i = i))))) ⟨same_new hD, upd_same⟩ (fun _ _ _ p => SqT.of (p.1 _ _ ha)) ?_ ?_⟩
    · rintro i y H1 H2 hi ⟨sm, eD⟩ ⟨tt, x1, x2, rfl, ht, rfl, hx1, hy⟩
      cases hx1
      obtain ⟨hie, rfl⟩ := vns_at hy
      have sm2 : Same H (upd H1 tt (.tup [.int (i : Nat), vn (ap e i)])) := sm.trans (same_new ht)
      have nt : Dl ≠ tt := ne_of_none eD ht
      have eD2 : upd H1 tt (.tup [.int (i : Nat), vn (ap e i)]) Dl = some (.lst (vns ((List.range i).filter fun i => decide (ap e i = i)))) := by rw [upd_ne nt]; exact eD
      refine ⟨tt, _, rfl, SqT.of upd_same, rfl, _, _, rfl, _, _, rfl, rfl, rfl, ?_⟩
      refine ⟨_, rfl, _, rfl, rfl, _, rfl, ite2 (fun z => ?_) (fun z => ?_)⟩
      · have hz : ap e i = i := by
          have := V.int.inj (of_decide_eq_true z)
          omega
        refine ⟨_, rfl, _, eD2, ?_, same_at sm2 hD, ?_⟩
        · rw [List.length_map]
          exact Nat.lt_of_le_of_lt (stl_len e i) (szl (by omega))
        · rw [upd_same, stl_step, if_pos hz]
          exact congrArg (fun l => some (HO.lst l)) (vns_snoc _ _)
      · have hz : ¬ ap e i = i := fun q => z (decide_eq_true (congrArg (fun n : Nat => V.int (n : Int)) q.symm))
        refine ⟨sm2, ?_⟩
        rw [eD2, stl_step, if_neg hz, List.append_nil]
    · rintro H2 ⟨sm, eD⟩
      refine q _ _ sm ⟨Dl, rfl, ?_⟩
      rw [eD, List.length_map]
      rfl
/-! first unlike -/
def unl (e g : Eff) : Option Nat := (List.range e.length).find? fun i => decide (ap g i ≠ ap e i)
def vo : Option Nat → V
  | none => .non
  | some i => vn i
def spUnl : Sp := fun vs H Q _ => ∃ v u e g, vs = [v, u] ∧ Ef H v e ∧ Ef H u g ∧ g.length = e.length ∧ e.length ≤ 1000 ∧ ∀ H', Same H H' → Q (vo (unl e g)) H'
theorem find_range {p : Nat → Bool} {n i : Nat} (h : i < n) (hp : p i = true) (hb : ∀ j, j < i → p j = false) : (List.range n).find? p = some i := by
  rw [List.find?_range_eq_some]
  exact ⟨hp, List.mem_range.mpr h, fun j hj => by rw [hb j hj]; rfl⟩
abbrev sc_first_unlikeN : List Str := ["one", "other", "state", "image"]
theorem sc_first_unlike : FnScope sc_first_unlikeN ["one", "other"] (defScope (topS 41)) := ⟨rfl, rfl, rfl, by decide +kernel, rfl, by decide +kernel, by decide +kernel⟩
theorem ok_first_unlike (D : Dfn K mg "first_unlike" (topS 41)) (T : Txt K mg CM) : Fn P w K mg base 1 "first_unlike" spUnl := by
  refine fn_by D sc_first_unlike (fun _ _ _ _ _ _ us hl => match us, hl with | [_, _], _ => rfl) (fun vs H Q E h => ?_) (fun f cdv A outer s H vs Q E hr h => ?_)
  · obtain ⟨v, u, e, g, rfl, _⟩ := h
    rfl
  · obtain ⟨v, u, e, g, rfl, ⟨a, rfl, ha⟩, ⟨b, rfl, hb⟩, hl, hl2, q⟩ := h
    refine ⟨_, (pss_cons (ps_for PassesOwn.never rfl (pi_enumT rfl T.enumerate (pa_cons (pv 0) pa_nil)) (pg_tup (n := 2) rfl (pgs_cons (pg_name (i := 2) sc_first_unlike.nd rfl (Or.inl rfl)) (pgs_cons (pg_name (i := 3) sc_first_unlike.nd rfl (Or.inl rfl)) pgs_nil)))
 (pss_one (ps_if (pt_cmpR op_ne (pe_ix ix_tup (pv 1) (pv 2) (fun _ _ => rfl)) (pv 3) (nomark _))
 (pss_one (ps_ret (pv 2)))
 pss_nil)))
 (pss_one (ps_ret pe_non))), ?_⟩
    refine ⟨.ref a, rfl, a, _, rfl, SqT.of ha, for_it walk_enumT (fun i σ H' => Same H H' ∧ σ[0]? = some (some (.ref a)) ∧ σ[1]? = some (some (.ref b)) ∧ σ.length = 4 ∧ ∀ j, j < i → ap g j = ap e j) ⟨Same.refl H, rfl, rfl, rfl, fun j hj => absurd hj (Nat.not_lt_zero j)⟩ (fun _ _ _ _ p => SqT.of (p.1 _ _ ha)) ?_ ?_⟩
    · rintro i y σ H1 H2 hi ⟨sm, s0, s1, sl, hb4⟩ ⟨tt, x1, x2, rfl, ht, rfl, hx1, hy⟩
      cases hx1
      obtain ⟨hie, rfl⟩ := vns_at hy
      have sm2 : Same H (upd H1 tt (.tup [.int (i : Nat), vn (ap e i)])) := sm.trans (same_new ht)
      match σ, sl with
      | [c0, c1, c2, c3], _ =>
        cases s0
        cases s1
        refine ⟨tt, _, rfl, SqT.of upd_same, rfl, _, _, rfl, _, _, rfl, rfl, ?_⟩
        refine ⟨.ref b, rfl, _, rfl, ⟨b, _, _, _, rfl, rfl, SqT.of (sm2 _ _ hb), at_vn (by omega), _, rfl, rfl, _, rfl, ite2 (fun z => ?_) (fun z => ?_)⟩⟩
        · refine ⟨_, rfl, ?_⟩
          have hz : unl e g = some i := find_range hie (decide_eq_true fun q => by
            rw [q] at z
            simp at z) (fun j hj => by simp [hb4 j hj])
          have := q _ sm2
          rw [hz] at this
          exact this
        · refine ⟨sm2, rfl, rfl, rfl, fun j hj => ?_⟩
          by_cases hji : j = i
          · subst hji
            have : decide (vn (ap g j) = vn (ap e j)) = true := by simpa using z
            have := V.int.inj (of_decide_eq_true this)
            omega
          · exact hb4 j (by omega)
    · rintro σ H1 ⟨sm, s0, s1, sl, hb4⟩
      have hz : unl e g = none := by
        unfold unl
        rw [List.find?_eq_none]
        intro j hj
        have := List.mem_range.mp hj
        rw [List.length_map] at hb4
        simp [hb4 j this]
      have := q _ sm
      rw [hz] at this
      exact this
end
end EO
end
section
set_option Elab.async false
set_option linter.all false
set_option maxRecDepth 100000
set_option maxHeartbeats 1000000
/-! powers -/
namespace EO
open PySem PySem.Spec PyProof.Rows L2
theorem pw_sq {n : Nat} {f : Eff} (o : Ok n f) : ∀ k, pw n (thn f f) k = pw n f (2 * k)
  | 0 => rfl
  | k + 1 => by
    show thn (pw n (thn f f) k) (thn f f) = _
    rw [pw_sq o k, show 2 * (k + 1) = 2 * k + 2 by omega, ← pw_add o (2 * k) 2]
    congr 1
    show thn f f = thn (thn (idE n) f) f
    rw [id_thn o]
theorem pw_half {n : Nat} {g f : Eff} (p : Ok n g) (o : Ok n f) (k : Nat) : thn (if k % 2 = 1 then thn g f else g) (pw n (thn f f) (k / 2)) = thn g (pw n f k) := by
  rw [pw_sq o]
  by_cases h : k % 2 = 1
  · rw [if_pos h, thn_assoc p o (ok_pw o _)]
    congr 1
    have := pw_add o 1 (2 * (k / 2))
    rw [pw_one o] at this
    rw [this]
    congr 1
    omega
  · rw [if_neg h]
    congr 2
    omega
theorem mod1 {k : Nat} : ((k : Int) % 2 == 1) = decide (k % 2 = 1) := by
  rw [Bool.eq_iff_iff]
  simp only [beq_iff_eq, decide_eq_true_eq]
  omega
def jOf (i : Nat) (σ : L2.St) : Nat := match σ[i]? with
  | some (some (V.int j)) => j.toNat
  | _ => 0
section
variable {P : Program} {w : World} {K : PySem.W.Frag} {mg : Str → Option Value} {base : Heap} {CM : Addr}
def spPow (mg : Str → Option Value) : Sp := fun vs H Q _ => ∃ n v e k nv f, vs = [v, vn k, nv, .ref f] ∧ mg "effect_then" = some (.ref f) ∧ Ef H v e ∧ Ok n e ∧ Ef H nv (idE n) ∧ n ≤ 1000 ∧ ∀ H' r, Same H H' → Ef H' r (pw n e k) → Q r H'
abbrev sc_power_byN : List Str := ["thing", "times", "nothing", "then", "found"]
theorem sc_power_by : FnScope sc_power_byN ["thing", "times", "nothing", "then"] (defScope (topS 32)) := ⟨rfl, rfl, rfl, by decide +kernel, rfl, by decide +kernel, by decide +kernel⟩
theorem ok_power_by (D : Dfn K mg "power_by" (topS 32)) (T : Txt K mg CM) (c_then : Fn P w K mg base 1 "effect_then" spThen) : Fn P w K mg base 2 "power_by" (spPow mg) := by
  refine fn_by D sc_power_by (fun _ _ _ _ _ _ us hl => match us, hl with | [_, _, _, _], _ => rfl) (fun vs H Q E h => ?_) (fun f cdv A outer s H vs Q E hr h => ?_)
  · obtain ⟨n, v, e, k, nv, f, rfl, _⟩ := h
    rfl
  · obtain ⟨n, v, e, k, nv, ft, rfl, hm, hv, ho, hnv, hn, q⟩ := h
    obtain ⟨ff, fdt, pst, F_then, mm, k_then, b_then⟩ := c_then.ex
    rw [hm] at mm
    cases mm
    refine ⟨_, (pss_cons (ps_set (i := 4) sc_power_by.nd rfl (Or.inl rfl) (pv 2))
 (pss_cons (ps_while PassesOwn.never (pt_cmpR op_gt (pv 1) pe_int (nomark _))
 (pss_cons (ps_if (pt_cmpR op_eq (pe_op op_mod (pv 1) pe_int) pe_int (nomark _))
 (pss_one (ps_set (i := 4) sc_power_by.nd rfl (Or.inl rfl) (pe_callL (i := 3) F_then (hr.mono (by decide)) rfl (Or.inl rfl) k_then b_then .nil pass0 (pa_cons (pv 4) (pa_cons (pv 0) pa_nil)))))
 pss_nil)
 (pss_cons (ps_set (i := 0) sc_power_by.nd rfl (Or.inl rfl) (pe_callL (i := 3) F_then (hr.mono (by decide)) rfl (Or.inl rfl) k_then b_then .nil pass0 (pa_cons (pv 0) (pa_cons (pv 0) pa_nil))))
 (pss_one (ps_aug (i := 1) sc_power_by.nd rfl (Or.inl rfl) pe_int iop_fdiv)))))
 (pss_one (ps_ret (pv 4))))), ?_⟩
    refine ⟨nv, rfl, ?_⟩
    refine while_by (fun σ H' => ∃ tv t j gv g, σ = [some tv, some (vn j), some nv, some (.ref ft), some gv] ∧ Same H H' ∧ Ef H' tv t ∧ Ok n t ∧ Ef H' gv g ∧ Ok n g ∧ thn g (pw n t j) = pw n e k)
      (fun σ _ => jOf 1 σ) ⟨v, e, k, nv, idE n, rfl, Same.refl H, hv, ho, hnv, ok_id n, id_thn (ok_pw ho k)⟩ ?_ ?_
    · rintro σ H1 ⟨tv, t, j, gv, g, rfl, sm, ht, hto, hg, hgo, heq⟩
      refine ⟨_, rfl, (j : Int), 0, rfl, rfl, _, rfl, ite2 (fun z => ?_) (fun z => ?_)⟩
      · have hj : 0 < j := by simpa using z
        have tail : ∀ H2 gv2, Same H1 H2 → Ef H2 gv2 (if j % 2 = 1 then thn g t else g) → ∀ (D : Ends), (∀ σ' H', ((∃ tv t j gv g, σ' = [some tv, some (vn j), some nv, some (.ref ft), some gv] ∧ Same H H' ∧ Ef H' tv t ∧ Ok n t ∧ Ef H' gv g ∧ Ok n g ∧ thn g (pw n t j) = pw n e k) ∧ jOf 1 σ' < j) → D.nx σ' H') →
            (tSeq (tAsg (tCallL 3 ft spThen [] E0 (tCons (tVar 0) (tCons (tVar 0) tNil))) (gName 0)) (tAug 1 (tC (.int 2)) (rI CDiv fun i j => .int (i / j)))) D [some tv, some (vn j), some nv, some (.ref ft), some gv2] H2 := by
          intro H2 gv2 sm2 hg2 D hD
          refine ⟨rfl, tv, rfl, tv, rfl, ?_⟩
          refine ⟨tv, tv, t, t, rfl, ht.sm sm2, ht.sm sm2, fun x hx => ?_, ?_, fun H3 r sm3 hr3 => ?_⟩
          · rw [hto.len]; exact hto.lt x hx
          · rw [hto.len]; exact hn
          · refine ⟨vn j, rfl, (j : Int), 2, rfl, rfl, ⟨by decide, by decide⟩, hD _ _ ⟨⟨r, thn t t, j / 2, gv2, _, rfl, sm.trans (sm2.trans sm3), hr3, ok_thn hto hto, hg2.sm sm3, ?_, ?_⟩, ?_⟩⟩
            · split
              · exact ok_thn hgo hto
              · exact hgo
            · rw [pw_half hgo hto, heq]
            · show ((j : Int) / 2).toNat < j
              omega
        refine ⟨_, rfl, (j : Int), 2, rfl, rfl, show (0:Int) < 2 by decide, rfl, _, rfl, ite2 (fun z2 => ?_) (fun z2 => ?_)⟩
        · have h2 : j % 2 = 1 := by
            have := V.int.inj (of_decide_eq_true z2)
            omega
          refine ⟨rfl, gv, rfl, tv, rfl, gv, tv, g, t, rfl, hg, ht, fun x hx => ?_, ?_, fun H2 r sm2 hr2 => tail H2 r sm2 ?_ _ (fun σ' H' p => p)⟩
          · rw [hto.len]; exact hgo.lt x hx
          · rw [hgo.len]; exact hn
          · rw [if_pos h2]; exact hr2
        · have h2 : ¬ j % 2 = 1 := fun q => z2 (decide_eq_true (congrArg V.int (show (j : Int) % 2 = 1 by omega)))
          refine tail H1 gv (Same.refl H1) ?_ _ (fun σ' H' p => p)
          rw [if_neg h2]; exact hg
      · have hj : j = 0 := by
          have : ¬ (0 < (j : Int)) := fun q => z (decide_eq_true q)
          omega
        subst hj
        refine ⟨gv, rfl, q _ _ sm ?_⟩
        rw [← heq]
        show Ef _ _ (thn g (idE n))
        rw [thn_id hgo]
        exact hg
    · rintro σ H Q Q' hq ⟨x, e1, i, j, e0, e2, k, e3, q⟩
      exact ⟨x, e1, i, j, e0, e2, k, e3, hq _ _ q⟩
def spDone : Sp := fun vs H Q _ => ∃ n v e k, vs = [v, vn k] ∧ Ef H v e ∧ Ok n e ∧ n ≤ 1000 ∧ ∀ H' r, Same H H' → Ef H' r (pw n e k) → Q r H'
theorem rg_id (n : Nat) : rgV 0 (n : Int) = vns (idE n) := by
  unfold rgV vns idE
  rw [show ((n : Int) - 0).toNat = n by omega]
  apply List.map_congr_left
  intro i _
  show V.int (0 + (i : Int)) = V.int (i : Int)
  rw [Int.zero_add]
abbrev sc__law_doneN : List Str := ["_law_effect_here", "_law_times", "_law_found", "_law_square"]
theorem sc__law_done : FnScope sc__law_doneN ["_law_effect_here", "_law_times"] (defScope (topS 53)) := ⟨rfl, rfl, rfl, by decide +kernel, rfl, by decide +kernel, by decide +kernel⟩
theorem ok__law_done (D : Dfn K mg "_law_done" (topS 53)) (T : Txt K mg CM) (c__law_then : Fn P w K mg base 1 "_law_then" spThen) : Fn P w K mg base 2 "_law_done" spDone := by
  refine fn_by D sc__law_done (fun _ _ _ _ _ _ us hl => match us, hl with | [_, _], _ => rfl) (fun vs H Q E h => ?_) (fun f cdv A outer s H vs Q E hr h => ?_)
  · obtain ⟨n, v, e, k, rfl, _⟩ := h
    rfl
  · obtain ⟨n, v, e, k, rfl, ⟨a, rfl, ha⟩, ho, hn, q⟩ := h
    have hv : Ef H (.ref a) e := ⟨a, rfl, ha⟩
    refine ⟨_, (pss_cons (ps_par (i := 2) (j := 3) rfl sc__law_done.nd rfl rfl (by decide) rfl rfl (pa_cons (pe_tupRg rfl rfl T.tuple (prg_1 rfl T.range (pe_callB call_len_seq rfl T.len PySem.boot_len (pa_cons (pv 0) pa_nil)))) (pa_cons (pv 0) pa_nil)) (by rfl))
 (pss_cons (ps_while PassesOwn.never (pt_cmpR op_gt (pv 1) pe_int (nomark _))
 (pss_cons (ps_if (pt_cmpR op_eq (pe_op op_mod (pe_callTy call_int1 rfl T.int PyProof.Rows.Boot.«int» (pa_cons (pv 1) pa_nil)) pe_int) pe_int (nomark _))
 (pss_one (ps_set (i := 2) sc__law_done.nd rfl (Or.inl rfl) (pe_f c__law_then hr (by decide) rfl (pa_cons (pv 2) (pa_cons (pv 3) pa_nil)))))
 pss_nil)
 (pss_one (ps_par (i := 3) (j := 1) rfl sc__law_done.nd rfl rfl (by decide) rfl rfl (pa_cons (pe_f c__law_then hr (by decide) rfl (pa_cons (pv 3) (pa_cons (pv 3) pa_nil))) (pa_cons (pe_op op_fdiv (pv 1) pe_int) pa_nil)) (by rfl)))))
 (pss_one (ps_ret (pv 2))))), ?_⟩
    refine ⟨.ref a, rfl, a, _, rfl, .inr (SqT.of ha), ?_⟩
    have hlen : (vns e).length = n := by rw [List.length_map, ho.len]
    refine ⟨_, rfl, ?_⟩
    rw [hlen]
    refine ⟨RgOk.of_le (by decide) (by omega) (by decide) (by omega), fun l hl => ?_⟩
    have hid : rgV 0 (n : Int) = vns (idE n) := rg_id n
    rw [hid]
    have hlv : Ef (upd H l (.tup (vns (idE n)))) (.ref l) (idE n) := ⟨l, rfl, upd_same⟩
    have sm0 := same_new (o := HO.tup (vns (idE n))) hl
    refine ⟨.ref a, rfl, _, _, rfl, ?_⟩
    refine while_by (fun σ H' => ∃ tv t j gv g, σ = [some (.ref a), some (vn j), some gv, some tv] ∧ Same H H' ∧ Ef H' tv t ∧ Ok n t ∧ Ef H' gv g ∧ Ok n g ∧ thn g (pw n t j) = pw n e k)
      (fun σ _ => jOf 1 σ) ⟨.ref a, e, k, .ref l, idE n, rfl, sm0, hv.sm sm0, ho, hlv, ok_id n, id_thn (ok_pw ho k)⟩ ?_ ?_
    · rintro σ H1 ⟨tv, t, j, gv, g, rfl, sm, ht, hto, hg, hgo, heq⟩
      refine ⟨_, rfl, (j : Int), 0, rfl, rfl, _, rfl, ite2 (fun z => ?_) (fun z => ?_)⟩
      · have hj : 0 < j := by simpa using z
        have tail : ∀ H2 gv2, Same H1 H2 → Ef H2 gv2 (if j % 2 = 1 then thn g t else g) → ∀ (D : Ends), (∀ σ' H', ((∃ tv t j gv g, σ' = [some (.ref a), some (vn j), some gv, some tv] ∧ Same H H' ∧ Ef H' tv t ∧ Ok n t ∧ Ef H' gv g ∧ Ok n g ∧ thn g (pw n t j) = pw n e k) ∧ jOf 1 σ' < j) → D.nx σ' H') →
            (tPar 3 1 (tCons (tCall spThen [] E0 (tCons (tVar 3) (tCons (tVar 3) tNil))) (tCons (tOp (rI CDiv fun i j => .int (i / j)) (tVar 1) (tC (.int 2))) tNil))) D [some (.ref a), some (vn j), some gv2, some tv] H2 := by
          intro H2 gv2 sm2 hg2 D hD
          refine ⟨tv, rfl, tv, rfl, tv, tv, t, t, rfl, ht.sm sm2, ht.sm sm2, fun x hx => ?_, ?_, fun H3 r sm3 hr3 => ?_⟩
          · rw [hto.len]; exact hto.lt x hx
          · rw [hto.len]; exact hn
          · refine ⟨vn j, rfl, (j : Int), 2, rfl, rfl, ⟨by decide, by decide⟩, _, _, rfl, hD _ _ ⟨⟨r, thn t t, j / 2, gv2, _, rfl, sm.trans (sm2.trans sm3), hr3, ok_thn hto hto, hg2.sm sm3, ?_, ?_⟩, ?_⟩⟩
            · split
              · exact ok_thn hgo hto
              · exact hgo
            · rw [pw_half hgo hto, heq]
            · show ((j : Int) / 2).toNat < j
              omega
        refine ⟨_, rfl, .inl ⟨(j : Int), rfl, (j : Int), 2, rfl, rfl, show (0:Int) < 2 by decide, rfl, _, rfl, ite2 (fun z2 => ?_) (fun z2 => ?_)⟩⟩
        · have h2 : j % 2 = 1 := by
            have := V.int.inj (of_decide_eq_true z2)
            omega
          refine ⟨gv, rfl, tv, rfl, gv, tv, g, t, rfl, hg, ht, fun x hx => ?_, ?_, fun H2 r sm2 hr2 => tail H2 r sm2 ?_ _ (fun σ' H' p => p)⟩
          · rw [hto.len]; exact hgo.lt x hx
          · rw [hgo.len]; exact hn
          · rw [if_pos h2]; exact hr2
        · have h2 : ¬ j % 2 = 1 := fun q => z2 (decide_eq_true (congrArg V.int (show (j : Int) % 2 = 1 by omega)))
          refine tail H1 gv (Same.refl H1) ?_ _ (fun σ' H' p => p)
          rw [if_neg h2]; exact hg
      · have hj : j = 0 := by
          have : ¬ (0 < (j : Int)) := fun q => z (decide_eq_true q)
          omega
        subst hj
        refine ⟨gv, rfl, q _ _ sm ?_⟩
        rw [← heq]
        show Ef _ _ (thn g (idE n))
        rw [thn_id hgo]
        exact hg
    · rintro σ H Q Q' hq ⟨x, e1, i, j, e0, e2, k, e3, q⟩
      exact ⟨x, e1, i, j, e0, e2, k, e3, hq _ _ q⟩
end
end EO
end
section
set_option Elab.async false
set_option linter.all false
set_option maxRecDepth 100000
set_option maxHeartbeats 1000000
/-! drawing -/
namespace EO
open PySem PySem.Spec PyProof.Rows L2
abbrev vis (ns : List Int) : List V := ns.map V.int
/-- the deal at d, its numbers at b -/
def De (H : Hp) (d b : Addr) : Prop := ∃ (ns : List Int) (m : Int), H d = some (.lst [.ref b, .int m]) ∧ H b = some (.lst (vis ns)) ∧ (∀ x ∈ ns, 0 ≤ x) ∧ ns.length ≤ 100
/-- what is neither stays -/
def Kp (d b : Addr) (H H' : Hp) : Prop := ∀ c o, c ≠ d → c ≠ b → H c = some o → H' c = some o
section
variable {H H' H1 : Hp} {d b : Addr}
theorem Kp.refl : Kp d b H H := fun _ _ _ _ h => h
theorem Kp.trans (k : Kp d b H H1) (l : Kp d b H1 H') : Kp d b H H' := fun c o n m h => l c o n m (k c o n m h)
theorem Kp.same (s : Same H H') : Kp d b H H' := fun c o _ _ h => s c o h
theorem Kp.updD (k : Kp d b H H') {o : HO} : Kp d b H (upd H' d o) := fun c o n m h => by rw [upd_ne n]; exact k c o n m h
theorem Kp.updB (k : Kp d b H H') {o : HO} : Kp d b H (upd H' b o) := fun c o n m h => by rw [upd_ne m]; exact k c o n m h
theorem De.same (h : De H d b) (s : Same H H') : De H' d b := let ⟨ns, m, e1, e2, r⟩ := h; ⟨ns, m, s _ _ e1, s _ _ e2, r⟩
theorem De.ne (h : De H d b) : d ≠ b := fun e => by
  obtain ⟨ns, m, e1, e2, _⟩ := h
  rw [e, e2] at e1
  cases ns with
  | nil => simp [vis] at e1
  | cons x r => simp [vis] at e1
theorem De.kt (h : De H d b) (k : Kp d b H H') : KT H H' := fun c xs e => by
  obtain ⟨ns, m, e1, e2, _⟩ := h
  exact k c _ (fun z => by rw [z, e1] at e; cases e) (fun z => by rw [z, e2] at e; cases e) e
end
theorem dpAll_is {K : PySem.W.Frag} {H : Hp} : ∀ e : List Int, DpAll K H (vis e) (e.map PyData.int)
  | [] => .nil
  | n :: e => .cons (.int _) (dpAll_is e)
theorem lay_is : ∀ e : List Int, PyData.canLayAll0 (e.map PyData.int) = true
  | [] => rfl
  | n :: e => by simp [PyData.canLayAll0, PyData.canLay0, lay_is e]
theorem depth_is : ∀ e : List Int, PyData.depthAll (e.map PyData.int) = 0
  | [] => rfl
  | n :: e => by simp [PyData.depthAll, PyData.depth, depth_is e]
theorem shaped_is (e : List Int) : SeqAt.shaped (.list (e.map PyData.int)) = true := by simp [SeqAt.shaped, PyData.canLay0, lay_is, PyData.depth, depth_is]
section
variable {P : Program} {w : World} {K : PySem.W.Frag} {mg : Str → Option Value} {base : Heap} {CM : Addr}
def spAny : Sp := fun vs H Q _ => ∃ d b B, vs = [.ref d, vn B] ∧ 1 ≤ B ∧ B ≤ 1000000 ∧ De H d b ∧ ∀ H' x, x < B → Kp d b H H' → De H' d b → Q (vn x) H'
abbrev sc__law_anyN : List Str := ["_law_deal_here", "_law_bound", "_law_rest"]
theorem sc__law_any : FnScope sc__law_anyN ["_law_deal_here", "_law_bound"] (defScope (topS 47)) := ⟨rfl, rfl, rfl, by decide +kernel, rfl, by decide +kernel, by decide +kernel⟩
theorem ok__law_any (D : Dfn K mg "_law_any" (topS 47)) (T : Txt K mg CM) : Fn P w K mg base 1 "_law_any" spAny := by
  refine fn_by D sc__law_any (fun _ _ _ _ _ _ us hl => match us, hl with | [_, _], _ => rfl) (fun vs H Q E h => ?_) (fun f cdv A outer s H vs Q E hr h => ?_)
  · obtain ⟨d, b, B, rfl, _⟩ := h
    rfl
  · obtain ⟨d, b, B, rfl, hB1, hB2, hde, q⟩ := h
    refine ⟨_, (pss_cons (ps_while PassesOwn.never (PW.pt (pw_and (pt_cmpR (op_neD hr.units) (pe_ix ix_list (pv 0) pe_int (fun _ _ => rfl)) (pe_lst pa_nil) (nomark _)) (pw_and1 (pt_cmpR op_eq (pe_ix ix_list (pe_ix ix_list (pv 0) pe_int (fun _ _ => rfl)) (pe_un un_neg pe_int) (fun _ _ => rfl)) pe_int (nomark _)))))
 (pss_one (ps_expr (pe_bm0 PySem.F.plainAttrs_list PySem.F.slot_list_pop PySem.F.type_list_pop mt_pop (pe_ix ix_list (pv 0) pe_int (fun _ _ => rfl))))))
 (pss_cons (ps_if (pt_cmpR (op_neD hr.units) (pe_ix ix_list (pv 0) pe_int (fun _ _ => rfl)) (pe_lst pa_nil) (nomark _))
 (pss_cons (ps_set (i := 2) sc__law_any.nd rfl (Or.inl rfl) (pe_callTy call_int1 rfl T.int PyProof.Rows.Boot.«int» (pa_cons (pe_bm0 PySem.F.plainAttrs_list PySem.F.slot_list_pop PySem.F.type_list_pop mt_pop (pe_ix ix_list (pv 0) pe_int (fun _ _ => rfl))) pa_nil)))
 (pss_cons (ps_expr (pe_bm PySem.F.plainAttrs_list PySem.F.slot_list_append PySem.F.type_list_append mt_append (pe_ix ix_list (pv 0) pe_int (fun _ _ => rfl)) (pa_cons (pe_op op_fdiv (pv 2) (pv 1)) pa_nil)))
 (pss_one (ps_ret (pe_op op_mod (pv 2) (pv 1))))))
 pss_nil)
 (pss_cons (ps_asg (pe_op op_mod (pe_callTy call_int1 rfl T.int PyProof.Rows.Boot.«int» (pa_cons (pe_op op_add (pe_op op_mul (pe_ix ix_list (pv 0) pe_int (fun _ _ => rfl)) pe_int) pe_int) pa_nil)) pe_int) (pg_sub (pv 0) pe_int set_list))
 (pss_one (ps_ret (pe_op op_mod (pe_callTy call_int1 rfl T.int PyProof.Rows.Boot.«int» (pa_cons (pe_op op_fdiv (pe_ix ix_list (pv 0) pe_int (fun _ _ => rfl)) pe_int) pa_nil)) (pv 1))))))), ?_⟩
    -- deal[0] != []
    have ne : ∀ (σ : L2.St) (ns : List Int) (m : Int) (H1 : Hp) (R : Bool → Hp → Prop), σ[0]? = some (some (.ref d)) → H1 d = some (.lst [.ref b, .int m]) → H1 b = some (.lst (vis ns)) → (∀ H2, Same H1 H2 → R (!ns.isEmpty) H2) →
        tTest (tOp (rNeD K) (tOp (rIxL K) (tVar 0) (tC (.int 0))) (tLst tNil)) σ H1 R := by
      intro σ ns m H1 R e0 e1 e2 q
      refine ⟨_, e0, d, _, 0, _, rfl, rfl, SqL.of e1, rfl, Nat.zero_le _, fun p hp => ⟨.list (ns.map .int), .list [], .lst (SqL.of (same_new hp _ _ e2)) (dpAll_is ns), .lst (SqL.of upd_same) .nil, shaped_is ns, rfl, _, rfl, ?_⟩⟩
      have z : (!PyData.eqv (.list (ns.map .int)) (.list [])) = !ns.isEmpty := by cases ns <;> rfl
      rw [z]
      exact q _ (same_new hp)
    refine while_by (fun σ H' => ∃ x, σ = [some (.ref d), some (vn B), x] ∧ De H' d b ∧ Kp d b H H')
      (fun σ H' => match H' b with
        | some (.lst xs) => xs.length
        | _ => 0) ⟨_, rfl, hde, Kp.refl⟩ ?_ ?_
    · rintro σ H1 ⟨x, rfl, ⟨ns, m, e1, e2, hp, hl⟩, kp⟩
      have dnb : d ≠ b := De.ne ⟨ns, m, e1, e2, hp, hl⟩
      refine ne _ ns m H1 _ rfl e1 e2 fun H2 sm => ?_
      cases ns with
      | nil =>
        refine ne _ [] m H2 _ rfl (sm _ _ e1) (sm _ _ e2) fun H3 sm3 => ?_
        have e1' : H3 d = some (.lst [.ref b, .int m]) := sm3 _ _ (sm _ _ e1)
        have e2' : H3 b = some (.lst (vis [])) := sm3 _ _ (sm _ _ e2)
        refine ⟨.ref d, rfl, d, _, 1, .int m, rfl, rfl, SqL.of e1', rfl, m, 40693, rfl, rfl, .inr ⟨by decide, by decide⟩, _, 71, rfl, rfl, .inl ⟨_, rfl, _, 2147483647, rfl, rfl, show (0 : Int) < 2147483647 by decide, ?_⟩⟩
        refine ⟨.ref d, rfl, d, _, 1, 1, rfl, rfl, e1', rfl, ?_⟩
        refine ⟨.ref d, rfl, d, _, 1, .int ((m * 40693 + 71) % 2147483647), rfl, rfl, SqL.of upd_same, rfl, _, 64, rfl, rfl, ⟨by decide, by decide⟩, .inl ⟨_, rfl, ?_⟩⟩
        refine ⟨_, rfl, _, _, rfl, rfl, show (0 : Int) < (B : Int) by omega, ?_⟩
        have hx : ∀ z : Int, ∃ x : Nat, z % (B : Int) = (x : Int) ∧ x < B := fun z => by
          have h1 := Int.emod_nonneg z (show (B : Int) ≠ 0 by omega)
          have h2 := Int.emod_lt_of_pos z (show (0 : Int) < (B : Int) by omega)
          exact ⟨(z % (B : Int)).toNat, by omega, by omega⟩
        obtain ⟨x, ex, hxB⟩ := hx ((m * 40693 + 71) % 2147483647 / 64)
        show Q (V.int (_ % (B : Int))) _
        rw [ex]
        exact q _ x hxB ((kp.trans ((Kp.same sm).trans (Kp.same sm3))).updD) ⟨[], _, upd_same, by rw [upd_ne dnb.symm]; exact e2', hp, by decide⟩
      | cons n0 nr =>
        obtain ⟨ini, last, enr⟩ : ∃ ini last, n0 :: nr = ini ++ [last] := ⟨(n0 :: nr).dropLast, (n0 :: nr).getLast (by simp), (List.dropLast_concat_getLast (by simp)).symm⟩
        rw [enr] at e2 hp hl
        have hat : atI (vis (ini ++ [last])) (-1) = some (.int last) := by
          unfold vis
          rw [List.map_append]
          exact atI_last _ _
        have hpop : (vis (ini ++ [last]))[(vis (ini ++ [last])).length - 1]? = some (.int last) := by
          simp [vis]
        have hdl : (vis (ini ++ [last])).dropLast = vis ini := by
          simp [vis]
        have e1' := sm _ _ e1
        have e2' := sm _ _ e2
        refine ⟨.ref d, rfl, d, _, 0, .ref b, rfl, rfl, SqL.of e1', rfl, 1, rfl, b, _, -1, .int last, rfl, rfl, SqL.of e2', hat, rfl, _, rfl, ite2 (fun z => ?_) (fun z => ?_)⟩
        · have hz : last = 0 := V.int.inj (of_decide_eq_true z)
          subst hz
          refine ⟨.ref d, rfl, d, _, 0, .ref b, rfl, rfl, SqL.of e1', rfl, .inl ⟨rfl, _, SqL.of e2'⟩, b, _, _, rfl, rfl, e2', hpop, ⟨_, rfl, ⟨ini, m, ?_, ?_, ?_, ?_⟩, ?_⟩, ?_⟩
          · rw [upd_ne dnb]; exact e1'
          · rw [upd_same, hdl]
          · exact fun x hx => hp x (List.mem_append_left _ hx)
          · simp at hl; omega
          · exact (kp.trans (Kp.same sm)).updB
          · simp only [upd_same, e2, enr, hdl]
            simp
        · refine ne _ (ini ++ [last]) m H2 _ rfl e1' e2' fun H3 sm3 => ?_
          have e1'' := sm3 _ _ e1'
          have e2'' := sm3 _ _ e2'
          have hne : (!(ini ++ [last]).isEmpty) = true := by cases ini <;> rfl
          rw [hne]
          refine ⟨.ref d, rfl, d, _, 0, .ref b, rfl, rfl, SqL.of e1'', rfl, .inl ⟨rfl, _, SqL.of e2''⟩, b, _, _, rfl, rfl, e2'', hpop, .inl ⟨last, rfl, ?_⟩⟩
          rw [hdl]
          have dnb2 : H3 d = (upd H3 b (.lst (vis ini))) d := (upd_ne dnb).symm
          have e3 : (upd H3 b (.lst (vis ini))) d = some (.lst [.ref b, .int m]) := by rw [← dnb2]; exact e1''
          refine ⟨.ref d, rfl, d, _, 0, .ref b, rfl, rfl, SqL.of e3, rfl, .inl ⟨rfl, _, SqL.of upd_same⟩, _, rfl, _, rfl, last, B, rfl, rfl, ⟨by omega, by omega⟩, b, _, _, rfl, rfl, upd_same, ?_, ?_⟩
          · rw [List.length_map]
            simp at hl
            exact szl (by omega)
          · refine ⟨_, rfl, _, rfl, last, B, rfl, rfl, show (0 : Int) < (B : Int) by omega, ?_⟩
            have hl0 : 0 ≤ last := hp last (by simp)
            obtain ⟨x, ex, hxB⟩ : ∃ x : Nat, last % (B : Int) = (x : Int) ∧ x < B := by
              have h1 := Int.emod_nonneg last (show (B : Int) ≠ 0 by omega)
              have h2 := Int.emod_lt_of_pos last (show (0 : Int) < (B : Int) by omega)
              exact ⟨(last % (B : Int)).toNat, by omega, by omega⟩
            show Q (V.int (last % (B : Int))) _
            rw [ex]
            refine q _ x hxB (((kp.trans ((Kp.same sm).trans (Kp.same sm3))).updB).updB) ⟨ini ++ [last / (B : Int)], m, ?_, ?_, ?_, ?_⟩
            · rw [upd_ne dnb]; exact e3
            · rw [upd_same]
              simp [vis]
            · intro y hy
              rcases List.mem_append.mp hy with hy | hy
              · exact hp y (List.mem_append_left _ hy)
              · rw [List.mem_singleton.mp hy]
                exact Int.ediv_nonneg hl0 (by omega)
            · simp at hl ⊢
              omega
    · rintro σ H Q Q' hq ⟨x, e0, p, xs, i, v, e1, e2, sq, ha, hs, hl⟩
      refine ⟨x, e0, p, xs, i, v, e1, e2, sq, ha, hs, fun p hp => ?_⟩
      obtain ⟨y1, y2, d1, d2, s1, s2, k, ek, h⟩ := hl p hp
      refine ⟨y1, y2, d1, d2, s1, s2, k, ek, ?_⟩
      cases k with
      | false => exact hq _ _ h
      | true =>
        obtain ⟨x, e0, p, xs, i, v, e1, e2, sq, ha, i1, ei1, p2, xs2, i2, v2, e3, e4, sq2, ha2, sc, k, ek, h⟩ := h
        exact ⟨x, e0, p, xs, i, v, e1, e2, sq, ha, i1, ei1, p2, xs2, i2, v2, e3, e4, sq2, ha2, sc, k, ek, hq _ _ h⟩
end
end EO
end
section
set_option Elab.async false
set_option linter.all false
set_option maxRecDepth 100000
set_option maxHeartbeats 1000000
/-! drawing: of, mixed, words, deeds -/
namespace EO
open PySem PySem.Spec PyProof.Rows L2
section
variable {P : Program} {w : World} {K : PySem.W.Frag} {mg : Str → Option Value} {base : Heap} {CM : Addr}
theorem De.not {H : Hp} {d b a : Addr} (h : De H d b) {o : HO} (e : H a = some o) (n : ∀ (xs : List V), o ≠ .lst xs) : a ≠ d ∧ a ≠ b := by
  obtain ⟨ns, m, e1, e2, _⟩ := h
  exact ⟨fun z => (by rw [z, e1] at e; exact n _ (Option.some.inj e).symm), fun z => (by rw [z, e2] at e; exact n _ (Option.some.inj e).symm)⟩
theorem De.new {H : Hp} {d b a : Addr} (h : De H d b) (e : H a = none) : a ≠ d ∧ a ≠ b := by
  obtain ⟨ns, m, e1, e2, _⟩ := h
  exact ⟨fun z => (by rw [z, e1] at e; cases e), fun z => (by rw [z, e2] at e; cases e)⟩
theorem erase_perm {α : Type} : ∀ (l : List α) (x : Nat) (h : x < l.length), (l[x] :: l.eraseIdx x).Perm l
  | _ :: _, 0, _ => List.Perm.refl _
  | a :: l, x + 1, h => (List.Perm.swap a _ _).trans (List.Perm.cons a (erase_perm l x (Nat.lt_of_succ_lt_succ h)))
/-- an int or an effect -/
def Pl (H : Hp) (v : V) : Prop := (∃ i, v = .int i) ∨ ∃ e, Ef H v e
theorem Pl.kt {H H' : Hp} {v : V} (h : Pl H v) (k : KT H H') : Pl H' v := h.elim .inl fun ⟨e, z⟩ => .inr ⟨e, z.kt k⟩
theorem pl_data {H : Hp} : ∀ {vs : List V}, (∀ v ∈ vs, Pl H v) → ∃ ds, DpAll K H vs ds ∧ PyData.canLayAll0 ds = true ∧ PyData.depthAll ds ≤ 1 ∧ ds.length = vs.length
  | [], _ => ⟨[], .nil, rfl, Nat.zero_le _, rfl⟩
  | v :: vs, h => by
    obtain ⟨ds, a, b, c, e⟩ := pl_data (vs := vs) fun u hu => h u (List.mem_cons_of_mem _ hu)
    rcases h v (List.mem_cons_self ..) with ⟨i, rfl⟩ | ⟨g, hg⟩
    · exact ⟨.int i :: ds, .cons (.int i) a, by simp [PyData.canLayAll0, PyData.canLay0, b], by simp [PyData.depthAll, PyData.depth, c], by simp [e]⟩
    · exact ⟨dE g :: ds, .cons hg.dp a, by simp [PyData.canLayAll0, dE, PyData.canLay0, lay_ints, b], by simp [PyData.depthAll, dE, PyData.depth, depth_ints, c], by simp [e]⟩
theorem ne_nil {R : Bool → Hp → Prop} {i : Nat} {σ : L2.St} {H : Hp} {p : Addr} {xs : List V} (e0 : σ[i]? = some (some (.ref p))) (e1 : H p = some (.lst xs)) (hp : ∀ v ∈ xs, Pl H v) (q : ∀ H2, Same H H2 → R (!xs.isEmpty) H2) :
    tTest (tOp (rNeD K) (tVar i) (tLst tNil)) σ H R := by
  refine ⟨_, e0, Nat.zero_le _, fun p2 hp2 => ?_⟩
  have sm := same_new (o := HO.lst []) hp2
  obtain ⟨ds, a, b, c, e⟩ := pl_data (K := K) (H := upd H p2 (.lst [])) (vs := xs) fun v hv => (hp v hv).kt (kt sm)
  refine ⟨.list ds, .list [], .lst (SqL.of (sm _ _ e1)) a, .lst (SqL.of upd_same) .nil, ?_, rfl, _, rfl, ?_⟩
  · simp [SeqAt.shaped, PyData.canLay0, b, PyData.depth]; omega
  · have z : (!PyData.eqv (.list ds) (.list [])) = !xs.isEmpty := by
      cases ds with
      | nil =>
        cases xs with
        | nil => rfl
        | cons _ _ => cases e
      | cons _ _ =>
        cases xs with
        | nil => cases e
        | cons _ _ => rfl
    rw [z]
    exact q _ sm
def spOf : Sp := fun vs H Q _ => ∃ d b a, ∃ xs : List V, vs = [.ref d, .ref a] ∧ De H d b ∧ H a = some (.lst xs) ∧ a ≠ d ∧ a ≠ b ∧ xs ≠ [] ∧ xs.length ≤ 1000000 ∧ ∀ H' (i : Nat) (x : V), xs[i]? = some x → Kp d b H H' → De H' d b → Q x H'
abbrev sc__law_ofN : List Str := ["_law_deal_here", "_law_some"]
theorem sc__law_of : FnScope sc__law_ofN ["_law_deal_here", "_law_some"] (defScope (topS 48)) := ⟨rfl, rfl, rfl, by decide +kernel, rfl, by decide +kernel, by decide +kernel⟩
theorem ok__law_of (D : Dfn K mg "_law_of" (topS 48)) (T : Txt K mg CM) (c__law_any : Fn P w K mg base 1 "_law_any" spAny) : Fn P w K mg base 2 "_law_of" spOf := by
  refine fn_by D sc__law_of (fun _ _ _ _ _ _ us hl => match us, hl with | [_, _], _ => rfl) (fun vs H Q E h => ?_) (fun f cdv A outer s H vs Q E hr h => ?_)
  · obtain ⟨d, b, a, xs, rfl, _⟩ := h
    rfl
  · obtain ⟨d, b, a, xs, rfl, hde, ha, n1, n2, hx, hl, q⟩ := h
    refine ⟨_, (pss_one (ps_ret (pe_ix ix_list (pv 1) (pe_f c__law_any hr (by decide) rfl (pa_cons (pv 0) (pa_cons (pe_callB call_len_seq rfl T.len PySem.boot_len (pa_cons (pv 1) pa_nil)) pa_nil))) (fun _ _ => rfl)))), ?_⟩
    refine ⟨.ref a, rfl, .ref d, rfl, .ref a, rfl, a, xs, rfl, .inl (SqL.of ha), d, b, xs.length, rfl, ?_, hl, hde, fun H' x hxl kp de => ?_⟩
    · cases xs with
      | nil => exact absurd rfl hx
      | cons _ _ => simp
    · have hx2 : xs[x]? = some (xs[x]'hxl) := List.getElem?_eq_getElem hxl
      exact ⟨a, xs, x, _, rfl, rfl, SqL.of (kp _ _ n1 n2 ha), atI_nat hx2, q _ _ _ hx2 kp de⟩
/-! mixed -/
def spMixed (K : PySem.W.Frag) : Sp := fun vs H Q _ => ∃ d b a, ∃ xs : List V, vs = [.ref d, .ref a] ∧ De H d b ∧ SqL K H a xs ∧ (∀ v ∈ xs, Pl H v) ∧ xs.length ≤ 1000 ∧ ∀ H' l ys, ys.Perm xs → Kp d b H H' → De H' d b → H' l = some (.lst ys) → H l = none → Q (.ref l) H'
abbrev sc__law_mixedN : List Str := ["_law_deal_here", "_law_some", "_law_left", "_law_found"]
theorem sc__law_mixed : FnScope sc__law_mixedN ["_law_deal_here", "_law_some"] (defScope (topS 49)) := ⟨rfl, rfl, rfl, by decide +kernel, rfl, by decide +kernel, by decide +kernel⟩
theorem ok__law_mixed (D : Dfn K mg "_law_mixed" (topS 49)) (T : Txt K mg CM) (c__law_any : Fn P w K mg base 1 "_law_any" spAny) : Fn P w K mg base 2 "_law_mixed" (spMixed K) := by
  refine fn_by D sc__law_mixed (fun _ _ _ _ _ _ us hl => match us, hl with | [_, _], _ => rfl) (fun vs H Q E h => ?_) (fun f cdv A outer s H vs Q E hr h => ?_)
  · obtain ⟨d, b, a, xs, rfl, _⟩ := h
    rfl
  · obtain ⟨d, b, a, xs, rfl, hde, ha, hpl, hl, q⟩ := h
    refine ⟨_, (pss_cons (ps_par (i := 2) (j := 3) rfl sc__law_mixed.nd rfl rfl (by decide) rfl rfl (pa_cons (pe_callTy call_list_of rfl T.list PyProof.Rows.Boot.«list» (pa_cons (pv 1) pa_nil)) (pa_cons (pe_lst pa_nil) pa_nil)) (by rfl))
 (pss_cons (ps_while PassesOwn.never (pt_cmpR (op_neD hr.units) (pv 2) (pe_lst pa_nil) (nomark _))
 (pss_one (ps_expr (pe_bm PySem.F.plainAttrs_list PySem.F.slot_list_append PySem.F.type_list_append mt_append (pv 3) (pa_cons (pe_bm PySem.F.plainAttrs_list PySem.F.slot_list_pop PySem.F.type_list_pop mt_popAt (pv 2) (pa_cons (pe_f c__law_any hr (by decide) rfl (pa_cons (pv 0) (pa_cons (pe_callB call_len_seq rfl T.len PySem.boot_len (pa_cons (pv 2) pa_nil)) pa_nil))) pa_nil)) pa_nil)))))
 (pss_one (ps_ret (pv 3))))), ?_⟩
    refine ⟨.ref a, rfl, a, xs, rfl, .inl ha, fun p hp => ⟨Nat.zero_le _, fun p2 hp2 => ⟨_, _, rfl, ?_⟩⟩⟩
    have np : p2 ≠ p := fun z => by rw [z, upd_same] at hp2; cases hp2
    refine while_by (fun σ H' => ∃ left fnd, σ = [some (.ref d), some (.ref a), some (.ref p), some (.ref p2)] ∧ De H' d b ∧ Kp d b H H' ∧ H' p = some (.lst left) ∧ H' p2 = some (.lst fnd) ∧ (fnd ++ left).Perm xs)
      (fun σ H' => match H' p with
        | some (.lst xs) => xs.length
        | _ => 0) ⟨xs, [], rfl, (hde.same (same_new hp)).same (same_new hp2), (Kp.same (same_new hp)).trans (Kp.same (same_new hp2)), by rw [upd_ne np.symm, upd_same], upd_same, List.Perm.refl _⟩ ?_ ?_
    · rintro σ H1 ⟨left, fnd, rfl, de, kp, e1, e2, hperm⟩
      have hlen : fnd.length + left.length = xs.length := by
        have := hperm.length_eq
        simpa using this
      have kt1 : KT H H1 := hde.kt kp
      refine ne_nil rfl e1 (fun v hv => (hpl v (hperm.mem_iff.mp (List.mem_append_right _ hv))).kt kt1) fun H2 sm => ?_
      have de2 := de.same sm
      have kp2 := kp.trans (Kp.same sm)
      have e1' := sm _ _ e1
      have e2' := sm _ _ e2
      cases left with
      | nil =>
        refine ⟨.ref p2, rfl, q _ _ fnd ?_ kp2 de2 e2' ?_⟩
        · simpa using hperm
        · rw [upd_ne np] at hp2; exact hp2
      | cons v0 vr =>
        have nd := (hde.same (same_new (o := HO.lst xs) hp)).new hp2
        have nd1 := hde.new hp
        refine ⟨.ref p2, rfl, .inl ⟨rfl, _, SqL.of e2'⟩, .ref p, rfl, .inl ⟨rfl, _, SqL.of e1'⟩, .ref d, rfl, .ref p, rfl, p, _, rfl, .inl (SqL.of e1'), d, b, (v0 :: vr).length, rfl, ?_, ?_, de2, fun H3 x hx kp3 de3 => ?_⟩
        · simp
        · omega
        · have e1'' := kp3 _ _ nd1.1 nd1.2 e1'
          have e2'' := kp3 _ _ nd.1 nd.2 e2'
          have hx2 : (v0 :: vr)[x]? = some ((v0 :: vr)[x]'hx) := List.getElem?_eq_getElem hx
          refine ⟨p, _, x, x, _, rfl, rfl, e1'', by omega, by omega, ?_, hx2, p2, fnd, _, rfl, rfl, ?_, ?_, ?_⟩
          · unfold seqIndex?
            simp at hx ⊢
            omega
          · rw [upd_ne np]; exact e2''
          · exact szl (by omega)
          · refine ⟨⟨(v0 :: vr).eraseIdx x, fnd ++ [(v0 :: vr)[x]'hx], rfl, ?_, ?_, ?_, upd_same, ?_⟩, ?_⟩
            · obtain ⟨ns, m, f1, f2, f3⟩ := de3
              exact ⟨ns, m, by rw [upd_ne nd.1.symm, upd_ne nd1.1.symm]; exact f1, by rw [upd_ne nd.2.symm, upd_ne nd1.2.symm]; exact f2, f3⟩
            · intro c o n m hc
              have hcp : c ≠ p := ne_of_none hc hp
              have hcp2 : c ≠ p2 := ne_of_none (same_new hp _ _ hc) hp2
              rw [upd_ne hcp2, upd_ne hcp]
              exact (kp2.trans kp3) c o n m hc
            · rw [upd_ne np.symm, upd_same]
            · refine List.Perm.trans ?_ hperm
              rw [List.append_assoc]
              exact List.Perm.append_left _ (erase_perm _ _ hx)
            · simp only [upd_ne np.symm, upd_same, e1]
              rw [List.length_eraseIdx]
              simp at hx ⊢
              split <;> omega
    · rintro σ H Q Q' hq ⟨x, e0, hs, hl⟩
      refine ⟨x, e0, hs, fun p hp => ?_⟩
      obtain ⟨y1, y2, d1, d2, s1, s2, k, ek, h⟩ := hl p hp
      exact ⟨y1, y2, d1, d2, s1, s2, k, ek, hq _ _ h⟩
end
end EO
end
section
set_option Elab.async false
set_option linter.all false
set_option maxRecDepth 100000
set_option maxHeartbeats 1000000
/-! drawn words, deeds -/
namespace EO
open PySem PySem.Spec PyProof.Rows L2
theorem joinL_sg : ∀ cs : List Nat, TL.joinL [] (cs.map fun c => [c]) = cs
  | [] => rfl
  | [_] => rfl
  | a :: b :: r => by
    have ih := joinL_sg (b :: r)
    show a :: ([] ++ TL.joinL [] ((b :: r).map fun c => [c])) = _
    rw [ih]
    rfl
theorem sum_one : ∀ cs : List Nat, (((cs.map fun c => [c]).map SX.S).map (·.length)).sum = cs.length
  | [] => rfl
  | a :: r => by
    rw [List.map_cons, List.map_cons, List.map_cons, List.sum_cons, sum_one r]
    show 1 + r.length = _
    simp [Nat.add_comm]
theorem nmS_S {l : List Nat} : nmS (SX.S l) = true ↔ (1 ≤ l.length ∧ l.length ≤ 8 ∧ ∀ c ∈ l, ltr c = true) := by
  unfold nmS
  rw [SX.S_len]
  simp only [Bool.and_eq_true, decide_eq_true_eq, List.all_eq_true]
theorem inV_str (z : Str) (ts : List Str) : inV (.str z) (vss ts) = decide (z ∈ ts) := by
  rw [Bool.eq_iff_iff, decide_eq_true_eq]
  unfold inV
  rw [List.any_map, List.any_eq_true]
  constructor
  · rintro ⟨x, hx, e⟩
    have : (x == z) = true := e
    rw [← eq_of_beq this]
    exact hx
  · intro h
    exact ⟨z, h, show (z == z) = true from beq_self_eq_true z⟩
theorem flat_vss (ts : List Str) : (vss ts).all flatV = true := by
  rw [List.all_map, List.all_eq_true]
  exact fun _ _ => rfl
theorem cut7 (cs : List Nat) : cutS (SX.S cs) none (some 7) = SX.S (cs.take 7) := by
  unfold cutS
  have e : HT.sIx (SX.S cs).length (SX.S cs).length (some 7) = min 7 cs.length := by
    rw [SX.S_len]
    exact HT.sIx_nat _ _ 7
  rw [e]
  show SX.S ((cs.drop 0).take (min 7 cs.length - 0)) = _
  rw [List.drop_zero, Nat.sub_zero]
  congr 1
  rw [← List.take_take, List.take_length]
def ten : Str := "abcdefghij"
def sgn (j : Nat) : Nat := 97 + j
theorem ten_at : ∀ i, i < 10 → ten.cps[i]? = some (sgn i) ∧ ltr (sgn i) = true := by decide
theorem abc_at : ∀ i, i < 26 → ∃ c, abc.cps.toList[i]? = some c ∧ ltr c = true := by decide
section
variable {P : Program} {w : World} {K : PySem.W.Frag} {mg : Str → Option Value} {base : Heap} {CM : Addr}
def spWord : Sp := fun vs H Q _ => ∃ d b a, ∃ ts : List Str, vs = [.ref d, .ref a] ∧ De H d b ∧ H a = some (.lst (vss ts)) ∧ a ≠ d ∧ a ≠ b ∧ ts.length ≤ 8 ∧ ∀ H' z, nmS z = true → z ∉ ts → Kp d b H H' → De H' d b → Q (.str z) H'
abbrev sc__law_wordN : List Str := ["_law_deal_here", "_law_taken", "_law_word_here", "_law_found", "_law_sign", "_law_turn"]
theorem sc__law_word : FnScope sc__law_wordN ["_law_deal_here", "_law_taken"] (defScope (topS 50)) := ⟨rfl, rfl, rfl, by decide +kernel, rfl, by decide +kernel, by decide +kernel⟩
theorem ok__law_word (D : Dfn K mg "_law_word" (topS 50)) (T : Txt K mg CM) (c__law_any : Fn P w K mg base 1 "_law_any" spAny) : Fn P w K mg base 2 "_law_word" spWord := by
  refine fn_by D sc__law_word (fun _ _ _ _ _ _ us hl => match us, hl with | [_, _], _ => rfl) (fun vs H Q E h => ?_) (fun f cdv A outer s H vs Q E hr h => ?_)
  · obtain ⟨d, b, a, ts, rfl, _⟩ := h
    rfl
  · obtain ⟨d, b, a, ts, rfl, hde, ha, n1, n2, hl, q⟩ := h
    refine ⟨_, (pss_cons (ps_set (i := 2) sc__law_word.nd rfl (Or.inl rfl) (pe_join pe_str (pe_lc (own := [("_law_turn", 5)]) rfl sc__law_word.nd (pi_range1 rfl T.range (pa_cons (pe_op op_add pe_int (pe_f c__law_any hr (by decide) rfl (pa_cons (pv 0) (pa_cons pe_int pa_nil)))) pa_nil)) (blkOk_by (N := sc__law_wordN) (sc := defScope (topS 50)) (by decide +kernel)) (fun _ _ _ _ _ => (pg_name (i := 5) sc__law_word.nd rfl (Or.inl rfl))) (fun _ _ _ _ _ => pts_nil) (fun _ _ _ _ _ => (pe_ix ix_str pe_str (pe_f c__law_any hr (by decide) rfl (pa_cons (pv 0) (pa_cons pe_int pa_nil))) (fun _ _ => rfl))))))
 (pss_cons (ps_set (i := 3) sc__law_word.nd rfl (Or.inl rfl) (pv 2))
 (pss_cons (ps_for PassesOwn.never rfl (pi_str pe_str) (pg_name (i := 4) sc__law_word.nd rfl (Or.inl rfl))
 (pss_one (ps_if (pt_cmpR op_in_seq (pv 3) (pv 1) (by rfl))
 (pss_one (ps_set (i := 3) sc__law_word.nd rfl (Or.inl rfl) (pe_op op_add_str (pe_slice sl_str (pv 2) po_none (po_some pe_int)) (pv 4))))
 pss_nil)))
 (pss_one (ps_ret (pv 3)))))), ?_⟩
    refine ⟨⟨_, rfl⟩, .ref d, rfl, d, b, 8, rfl, by decide, by decide, hde, fun H1 x hx kp de => ⟨1, x, rfl, rfl, _, rfl, by omega, by omega, fun Dl hD => ?_⟩⟩
    have hn : ((1 : Int) + (x : Int)).toNat = 1 + x := by omega
    rw [hn]
    have nD := de.new hD
    refine lc_it walk_range (fun i H' => Kp d b H1 H' ∧ De H' d b ∧ ∃ cs : List Nat, cs.length = i ∧ (∀ c ∈ cs, ltr c = true) ∧ H' Dl = some (.lst (cs.map fun c => V.str ⟨#[c]⟩))) ⟨Kp.same (same_new hD), de.same (same_new hD), [], rfl, by simp, upd_same⟩ (fun _ _ _ _ => True.intro) ?_ ?_
    · rintro i y H2 H3 hi ⟨kp2, de2, cs, hcl, hc, eD⟩ ⟨rfl, rfl⟩
      refine ⟨rfl, .ref d, rfl, d, b, 26, rfl, by decide, by decide, de2, fun H4 k hk kp4 de4 => ?_⟩
      obtain ⟨c, hcat, hlc⟩ := abc_at k hk
      have eD4 := kp4 _ _ nD.1 nD.2 eD
      refine ⟨_, (k : Int), c, rfl, rfl, sz (by decide), atI_nat hcat, _, eD4, ?_, ?_, ?_, cs ++ [c], by simp [hcl], ?_, ?_⟩
      · rw [List.length_map]; exact szl (by omega)
      · intro u o nu1 nu2 hu
        rw [upd_ne (ne_of_none hu hD)]
        exact (kp2.trans kp4) u o nu1 nu2 hu
      · obtain ⟨ns, m, f1, f2, f3⟩ := de4
        exact ⟨ns, m, by rw [upd_ne nD.1.symm]; exact f1, by rw [upd_ne nD.2.symm]; exact f2, f3⟩
      · intro z hz
        rcases List.mem_append.mp hz with hz | hz
        · exact hc z hz
        · rw [List.mem_singleton.mp hz]; exact hlc
      · rw [upd_same, List.map_append]; rfl
    · rintro H2 ⟨kp2, de2, cs, hcl, hc, eD⟩
      refine ⟨_, Dl, (cs.map fun c => [c]).map SX.S, rfl, rfl, .inl (SqL.of ?_), ?_, ?_⟩
      · rw [eD, List.map_map, List.map_map]; rfl
      · have z0 : (Str.ofString "").length = 0 := rfl
        rw [sum_one, z0]
        omega
      · have ej : Txt.join (Str.ofString "") ((cs.map fun c => [c]).map SX.S) = SX.S cs := by
          have := SX.join_S [] (cs.map fun c => [c])
          rw [joinL_sg] at this
          exact this
        have kp3 : Kp d b H H2 := kp.trans kp2
        have ha2 := kp3 _ _ n1 n2 ha
        rw [ej]
        have hnm : nmS (SX.S cs) = true := nmS_S.mpr ⟨by omega, by omega, hc⟩
        refine ⟨.str (SX.S cs), rfl, ?_⟩
        let W : Nat → Str := fun j => SX.S (cs.take 7 ++ [sgn j])
        have hW : ∀ j, j < 10 → nmS (W j) = true := fun j hj => nmS_S.mpr ⟨by simp, by simp; omega, fun c hc' => by
          rcases List.mem_append.mp hc' with h1 | h1
          · exact hc c (List.mem_of_mem_take h1)
          · rw [List.mem_singleton.mp h1]; exact (ten_at j hj).2⟩
        refine ⟨ten, rfl, for_it (walk_str (z := ten)) (fun i σ H' => ∃ z x, σ = [some (.ref d), some (.ref a), some (.str (SX.S cs)), some (.str z), x, none] ∧ Same H2 H' ∧ nmS z = true ∧ (z ∉ ts ∨ ((∀ j, j + 1 < i → W j ∈ ts) ∧ (i = 0 ∨ z = W (i - 1)))))
          ⟨SX.S cs, _, rfl, Same.refl _, hnm, .inr ⟨fun j hj => absurd hj (by omega), .inl rfl⟩⟩ (fun _ _ _ _ _ => True.intro) ?_ ?_⟩
        · rintro i y σ H3 H4 hi ⟨z, x, rfl, sm, hz, hor⟩ ⟨rfl, c, hcat, rfl⟩
          have hi10 : i < 10 := hi
          have ec : c = sgn i := by
            have := (ten_at i hi10).1
            rw [hcat] at this
            exact Option.some.inj this
          subst ec
          refine ⟨_, rfl, _, rfl, a, vss ts, rfl, .inl (SqL.of (sm _ _ ha2)), rfl, flat_vss ts, _, rfl, ?_⟩
          rw [if_neg Bool.false_ne_true, inV_str]
          refine ite2 (fun e => ?_) (fun e => ?_)
          · have hin : z ∈ ts := of_decide_eq_true e
            refine ⟨_, rfl, 7, rfl, SX.S cs, rfl, ?_, _, rfl, _, _, rfl, rfl, ?_, ?_⟩
            · rw [SX.S_len]; exact sz (by omega)
            · rw [cut7, SX.S_len, List.length_take]
              exact sz (Nat.le_trans (Nat.add_le_add (Nat.min_le_left _ _) (Nat.le_refl 1)) (by decide))
            · have ecut : cutS (SX.S cs) none (some 7) ++ (⟨#[sgn i]⟩ : Str) = W i := by
                rw [cut7]
                exact SX.S_cat _ [sgn i]
              show ∃ z x, _
              rw [ecut]
              refine ⟨W i, _, rfl, sm, hW i hi10, .inr ⟨fun j hj => ?_, .inr (by rw [Nat.add_sub_cancel])⟩⟩
              rcases hor with h1 | ⟨h1, h2⟩
              · exact absurd hin h1
              · by_cases hji : j + 1 < i
                · exact h1 j hji
                · rcases h2 with h2 | h2
                  · omega
                  · have ej2 : j = i - 1 := by omega
                    rw [ej2, ← h2]
                    exact hin
          · have hin : z ∉ ts := fun q => e (decide_eq_true q)
            exact ⟨z, _, rfl, sm, hz, .inl hin⟩
        · rintro σ H3 ⟨z, x, rfl, sm, hz, hor⟩
          refine ⟨.str z, rfl, q _ z hz ?_ (kp3.trans (Kp.same sm)) (de2.same sm)⟩
          rcases hor with h1 | ⟨h1, h2⟩
          · exact h1
          · intro _
            have nd : ((List.range 9).map W).Nodup := List.Pairwise.map W (fun a b hab heq => hab (by
              have := List.append_cancel_left (SX.S_inj heq)
              simp [sgn] at this
              omega)) List.nodup_range
            have := len_le_of_sub nd (l' := ts) (fun y hy => by
              obtain ⟨j, hj, rfl⟩ := List.mem_map.mp hy
              exact h1 j (by have := List.mem_range.mp hj; show j + 1 < 10; omega))
            simp at this
            omega
/-! deeds -/
def spDeeds : Sp := fun vs H Q _ => ∃ d b a, ∃ (xs : List V) (es : List Eff), vs = [.ref d, .ref a] ∧ De H d b ∧ H a = some (.lst xs) ∧ Al (Ef H) xs es ∧ a ≠ d ∧ a ≠ b ∧ es.length ≤ 8 ∧
  ∀ H' l ys (ds : List (Str × Eff)), ds.map (·.2) = es → (ds.map (·.1)).Nodup → (∀ p ∈ ds, nmS p.1 = true) → Al (Dd H') ys ds → Kp d b H H' → De H' d b → H' l = some (.lst ys) → H l = none → Q (.ref l) H'
abbrev sc__law_deedsN : List Str := ["_law_deal_here", "_law_tables_here", "_law_found", "_law_taken", "_law_images"]
theorem sc__law_deeds : FnScope sc__law_deedsN ["_law_deal_here", "_law_tables_here"] (defScope (topS 51)) := ⟨rfl, rfl, rfl, by decide +kernel, rfl, by decide +kernel, by decide +kernel⟩
theorem ok__law_deeds (D : Dfn K mg "_law_deeds" (topS 51)) (T : Txt K mg CM) (c__law_word : Fn P w K mg base 2 "_law_word" spWord) : Fn P w K mg base 3 "_law_deeds" spDeeds := by
  refine fn_by D sc__law_deeds (fun _ _ _ _ _ _ us hl => match us, hl with | [_, _], _ => rfl) (fun vs H Q E h => ?_) (fun f cdv A outer s H vs Q E hr h => ?_)
  · obtain ⟨d, b, a, xs, es, rfl, _⟩ := h
    rfl
  · obtain ⟨d, b, a, xs, es, rfl, hde, ha, hal, n1, n2, hl, q⟩ := h
    refine ⟨_, (pss_cons (ps_par (i := 2) (j := 3) rfl sc__law_deeds.nd rfl rfl (by decide) rfl rfl (pa_cons (pe_lst pa_nil) (pa_cons (pe_lst pa_nil) pa_nil)) (by rfl))
 (pss_cons (ps_for PassesOwn.never rfl (pi_list (pv 1)) (pg_name (i := 4) sc__law_deeds.nd rfl (Or.inl rfl))
 (pss_cons (ps_expr (pe_bm PySem.F.plainAttrs_list PySem.F.slot_list_append PySem.F.type_list_append mt_append (pv 3) (pa_cons (pe_f c__law_word hr (by decide) rfl (pa_cons (pv 0) (pa_cons (pv 3) pa_nil))) pa_nil)))
 (pss_one (ps_expr (pe_bm PySem.F.plainAttrs_list PySem.F.slot_list_append PySem.F.type_list_append mt_append (pv 2) (pa_cons (pe_tup (pa_cons (pe_ix ix_list (pv 3) (pe_un un_neg pe_int) (fun _ _ => rfl)) (pa_cons (pv 4) pa_nil))) pa_nil))))))
 (pss_one (ps_ret (pv 2))))), ?_⟩
    refine ⟨Nat.zero_le _, fun p hp => ⟨Nat.zero_le _, fun p2 hp2 => ⟨_, _, rfl, ?_⟩⟩⟩
    have np : p2 ≠ p := fun z => by rw [z, upd_same] at hp2; cases hp2
    have hd1 := hde.new hp
    have hd2 := (hde.same (same_new (o := HO.lst []) hp)).new hp2
    have hap : a ≠ p := ne_of_none ha hp
    have hap2 : a ≠ p2 := ne_of_none (same_new (o := HO.lst []) hp _ _ ha) hp2
    have hp2' : H p2 = none := by rw [upd_ne np] at hp2; exact hp2
    refine ⟨.ref a, rfl, a, rfl, ⟨_, SqL.of (by rw [upd_ne hap2, upd_ne hap]; exact ha)⟩, for_it (walk_list (xs := xs)) (fun i σ H' => ∃ x, σ = [some (.ref d), some (.ref a), some (.ref p), some (.ref p2), x] ∧ Kp d b H H' ∧ De H' d b ∧
        ∃ (ys : List V) (ds : List (Str × Eff)), H' p = some (.lst ys) ∧ H' p2 = some (.lst (vss (ds.map (·.1)))) ∧ Al (Dd H') ys ds ∧ ds.map (·.2) = es.take i ∧ (ds.map (·.1)).Nodup ∧ ∀ p ∈ ds, nmS p.1 = true)
      ⟨_, rfl, (Kp.same (same_new hp)).trans (Kp.same (same_new hp2)), (hde.same (same_new hp)).same (same_new hp2), [], [], by rw [upd_ne np.symm, upd_same], upd_same, Al.nil, rfl, List.nodup_nil, fun _ h => absurd h (by simp)⟩
      (fun i σ H' _ ⟨_, _, kp, _⟩ => SqL.of (kp _ _ n1 n2 ha)) ?_ ?_⟩
    · rintro i y σ H1 H2 hi ⟨x, rfl, kp, de, ys, ds, e1, e2, hys, hds, hnd, hnm⟩ ⟨rfl, hy⟩
      obtain ⟨e, he, hye⟩ := hal.at' hy
      have hie : i < es.length := (List.getElem?_eq_some_iff.mp he).1
      have hdl : ds.length = i := by
        have := congrArg List.length hds
        rw [List.length_map, List.length_take] at this
        omega
      refine ⟨.ref p2, rfl, .inl ⟨rfl, _, SqL.of e2⟩, .ref d, rfl, .ref p2, rfl, d, b, p2, ds.map (·.1), rfl, de, e2, hd2.1, hd2.2, by rw [List.length_map]; omega, fun H3 z hz hzn kp3 de3 => ?_⟩
      have e2' := kp3 _ _ hd2.1 hd2.2 e2
      have e1' := kp3 _ _ hd1.1 hd1.2 e1
      refine ⟨p2, _, .str z, rfl, rfl, e2', szl (by rw [List.length_map, List.length_map]; omega), ?_⟩
      have e1u : upd H3 p2 (.lst (vss (ds.map (·.1)) ++ [.str z])) p = some (.lst ys) := by rw [upd_ne np.symm]; exact e1'
      refine ⟨.ref p, rfl, .inl ⟨rfl, _, SqL.of e1u⟩, .ref p2, rfl, 1, rfl, p2, _, -1, .str z, rfl, rfl, SqL.of upd_same, atI_last _ _, _, rfl, by show 2 ≤ sizeLine; decide, fun t ht => ?_⟩
      have sm := same_new (o := HO.tup [.str z, y]) ht
      have e1t := sm _ _ e1u
      have e2t := sm p2 _ upd_same
      refine ⟨p, ys, .ref t, rfl, rfl, e1t, szl (by rw [hys.1]; omega), ?_⟩
      have k3 : KT H2 H3 := de.kt kp3
      have k4 : KT H3 (upd H3 p2 (.lst (vss (ds.map (·.1)) ++ [.str z]))) := kt_lst e2'
      have k5 : KT (upd H3 p2 (.lst (vss (ds.map (·.1)) ++ [.str z]))) (upd (upd H3 p2 (.lst (vss (ds.map (·.1)) ++ [.str z]))) t (.tup [.str z, y])) := kt sm
      have k6 := kt_lst (o := HO.lst (ys ++ [.ref t])) e1t
      have kall := ((k3.trans k4).trans k5).trans k6
      have kp4 : Kp d b H (upd (upd (upd H3 p2 (.lst (vss (ds.map (·.1)) ++ [.str z]))) t (.tup [.str z, y])) p (.lst (ys ++ [.ref t]))) := by
        intro c o m1 m2 hc
        rw [upd_ne (ne_of_none hc hp)]
        refine sm _ _ ?_
        rw [upd_ne (ne_of_none hc hp2')]
        exact (kp.trans kp3) c o m1 m2 hc
      have de4 : De (upd (upd (upd H3 p2 (.lst (vss (ds.map (·.1)) ++ [.str z]))) t (.tup [.str z, y])) p (.lst (ys ++ [.ref t]))) d b := by
        obtain ⟨ns, m, f1, f2, f3⟩ := de3
        refine ⟨ns, m, ?_, ?_, f3⟩
        · rw [upd_ne hd1.1.symm]
          refine sm _ _ ?_
          rw [upd_ne hd2.1.symm]
          exact f1
        · rw [upd_ne hd1.2.symm]
          refine sm _ _ ?_
          rw [upd_ne hd2.2.symm]
          exact f2
      refine ⟨_, rfl, kp4, de4, ys ++ [.ref t], ds ++ [(z, e)], upd_same, ?_, ?_, ?_, ?_, ?_⟩
      · rw [upd_ne np, e2t, List.map_append, vss, vss, List.map_append]
        rfl
      · refine Al.snoc (hys.mono fun v p h => h.kt kall) ⟨t, y, rfl, ?_, ?_⟩
        · exact k6 _ _ upd_same
        · exact hye.kt ((hde.kt kp).trans kall)
      · rw [List.map_append, hds, List.take_add_one, he]
        rfl
      · rw [List.map_append]
        refine List.nodup_append.mpr ⟨hnd, by simp, ?_⟩
        intro u hu v hv huv
        rw [List.mem_singleton.mp hv] at huv
        rw [huv] at hu
        exact hzn hu
      · intro q hq
        rcases List.mem_append.mp hq with hq | hq
        · exact hnm q hq
        · rw [List.mem_singleton.mp hq]; exact hz
    · rintro σ H1 ⟨x, rfl, kp, de, ys, ds, e1, e2, hys, hds, hnd, hnm⟩
      refine ⟨.ref p, rfl, q _ _ ys ds ?_ hnd hnm hys kp de e1 hp⟩
      rw [hds, hal.1, List.take_length]
end
end EO
end
section
set_option Elab.async false
set_option linter.all false
set_option maxRecDepth 100000
set_option maxHeartbeats 1000000
/-! the deal -/
namespace EO
open PySem PySem.Spec PyProof.Rows L2
theorem cutV_take (xs : List V) (k : Nat) : cutV xs none (some (k : Int)) = xs.take k := by
  unfold cutV
  rw [HT.sIx_nat, HT.sIx_none, List.drop_zero, Nat.sub_zero, ← List.take_take, List.take_length]
section
variable {P : Program} {w : World} {K : PySem.W.Frag} {mg : Str → Option Value} {base : Heap} {CM : Addr}
def spDeal (K : PySem.W.Frag) : Sp := fun vs H Q _ => ∃ a, ∃ ns : List Int, vs = [.ref a, vn 50] ∧ SqL K H a (vis ns) ∧ ns.length ≤ 63 ∧ ∀ H' d b, Same H H' → H d = none → H b = none → De H' d b → Q (.ref d) H'
abbrev sc__law_dealN : List Str := ["_law_script", "_law_base", "_law_cell", "_law_cells", "_law_mix"]
theorem sc__law_deal : FnScope sc__law_dealN ["_law_script", "_law_base"] (defScope (topS 46)) := ⟨rfl, rfl, rfl, by decide +kernel, rfl, by decide +kernel, by decide +kernel⟩
theorem ok__law_deal (D : Dfn K mg "_law_deal" (topS 46)) (T : Txt K mg CM) : Fn P w K mg base 1 "_law_deal" (spDeal K) := by
  refine fn_by D sc__law_deal (fun _ _ _ _ _ _ us hl => match us, hl with | [_, _], _ => rfl) (fun vs H Q E h => ?_) (fun f cdv A outer s H vs Q E hr h => ?_)
  · obtain ⟨a, ns, rfl, _⟩ := h
    rfl
  · obtain ⟨a, ns, rfl, ha, hl, q⟩ := h
    refine ⟨_, (pss_cons (ps_setLc (i := 3) (own := [("_law_cell", 2)]) rfl sc__law_deal.nd rfl rfl (sw_true rfl rfl rfl (by decide +kernel)) (pi_list (pe_slice sl_list (pv 0) po_none (po_some pe_int))) (blkOk_by (N := sc__law_dealN) (sc := defScope (topS 46)) (by decide +kernel)) (fun _ _ _ _ _ => (pg_name (i := 2) sc__law_deal.nd rfl (Or.inl rfl))) (fun _ _ _ _ _ => pts_nil) (fun _ _ _ _ _ => (pe_callB call_abs rfl T.abs PyProof.Rows.Boot.«abs» (pa_cons (pe_callTy call_int1 rfl T.int PyProof.Rows.Boot.«int» (pa_cons (pv 2) pa_nil)) pa_nil))))
 (pss_cons (ps_set (i := 4) sc__law_deal.nd rfl (Or.inl rfl) (pe_op op_add (pe_op op_mul pe_int (pv 1)) pe_int))
 (pss_cons (ps_for PassesOwn.never rfl (pi_list (pv 3)) (pg_name (i := 2) sc__law_deal.nd rfl (Or.inl rfl))
 (pss_one (ps_set (i := 4) sc__law_deal.nd rfl (Or.inl rfl) (pe_op op_mod (pe_callTy call_int1 rfl T.int PyProof.Rows.Boot.«int» (pa_cons (pe_op op_add (pe_op op_add (pe_op op_mul (pv 4) pe_int) (pe_op op_mod (pv 2) pe_int)) pe_int) pa_nil)) pe_int))))
 (pss_one (ps_ret (pe_lst (pa_cons (pe_revL (pe_lc (own := [("_law_cell", 2)]) rfl sc__law_deal.nd (pi_list (pv 3)) (blkOk_by (N := sc__law_dealN) (sc := defScope (topS 46)) (by decide +kernel)) (fun _ _ _ _ _ => (pg_name (i := 2) sc__law_deal.nd rfl (Or.inl rfl))) (fun _ _ _ _ _ => (pts_one (pt_cmpR op_ge (pv 2) (pe_op op_pow pe_int pe_int) (nomark _)))) (fun _ _ _ _ _ => (pv 2)))) (pa_cons (pv 4) pa_nil)))))))), ?_⟩
    have e63 : cutV (vis ns) none (some 63) = vis (ns.take 63) := (cutV_take (vis ns) 63).trans (by rw [vis, vis, List.map_take])
    let ms := ns.take 63
    have hml : ms.length ≤ 63 := by show (ns.take 63).length ≤ 63; rw [List.length_take]; omega
    let ab : Int → Int := fun x => if x < 0 then -x else x
    refine ⟨.ref a, rfl, 63, rfl, a, vis ns, rfl, ha, fun p hp => ⟨p, rfl, ⟨_, SqL.of upd_same⟩, fun Dl hD => ?_⟩⟩
    rw [e63] at *
    have sm0 := same_new (o := HO.lst (vis ms)) hp
    refine lc_it (walk_list (xs := vis ms)) (fun i H' => Same (upd H p (.lst (vis ms))) H' ∧ H' Dl = some (.lst (vis ((ms.map ab).take i)))) ⟨same_new hD, upd_same⟩ (fun _ _ _ p => SqL.of (p.1 _ _ upd_same)) ?_ ?_
    · rintro i y H1 H2 hi ⟨sm, eD⟩ ⟨rfl, hy⟩
      have him : i < ms.length := by simpa using hi
      have hy2 : y = .int ms[i] := by
        rw [List.getElem?_map, List.getElem?_eq_getElem him] at hy
        exact (Option.some.inj hy).symm
      subst hy2
      refine ⟨rfl, .int ms[i], rfl, .inl ⟨_, rfl, _, rfl, _, eD, ?_, same_at sm hD, ?_⟩⟩
      · rw [List.length_map, List.length_take]; exact szl (by omega)
      · rw [upd_same, List.take_add_one, List.getElem?_map, List.getElem?_eq_getElem him, vis, vis, List.map_append]
        rfl
    · rintro H1 ⟨sm, eD⟩
      rw [List.length_map, List.take_of_length_le (by simp)] at eD
      have smH : Same H H1 := sm0.trans sm
      refine ⟨vn 50, rfl, 52609, 50, rfl, rfl, .inl ⟨by decide, by decide⟩, _, 977, rfl, rfl, ?_⟩
      refine ⟨.ref Dl, rfl, Dl, rfl, ⟨_, SqL.of eD⟩, for_it (walk_list (xs := vis (ms.map ab))) (fun i σ H' => ∃ x m, σ = [some (.ref a), some (vn 50), x, some (.ref Dl), some (.int m)] ∧ H' = H1) ⟨_, _, rfl, rfl⟩ (fun _ _ _ _ ⟨_, _, _, z⟩ => by rw [z]; exact SqL.of eD) ?_ ?_⟩
      · rintro i y σ H2 H3 hi ⟨x, m, rfl, rfl⟩ ⟨rfl, hy⟩
        have him : i < (ms.map ab).length := by simpa using hi
        have hy2 : y = .int (ms.map ab)[i] := by
          rw [List.getElem?_map, List.getElem?_eq_getElem him] at hy
          exact (Option.some.inj hy).symm
        subst hy2
        exact ⟨_, rfl, m, 40693, rfl, rfl, .inr ⟨by decide, by decide⟩, _, rfl, _, 2147483549, rfl, rfl, show (0 : Int) < 2147483549 by decide, _, _, rfl, rfl, _, 59, rfl, rfl, .inl ⟨_, rfl, _, 2147483647, rfl, rfl, show (0 : Int) < 2147483647 by decide, _, _, rfl, rfl⟩⟩
      · rintro σ H2 ⟨x, m, rfl, rfl⟩
        let big : Int := 10 ^ 18
        refine ⟨.ref Dl, rfl, Dl, rfl, ⟨_, SqL.of eD⟩, fun D2 hD2 => lc_it (walk_list (xs := vis (ms.map ab))) (fun i H' => Same H2 H' ∧ H' D2 = some (.lst (vis (((ms.map ab).take i).filter fun x => decide (big ≤ x))))) ⟨same_new hD2, upd_same⟩ (fun _ _ _ p => SqL.of (p.1 _ _ eD)) ?_ ?_⟩
        · rintro i y H1 H3 hi ⟨sm2, eD2⟩ ⟨rfl, hy⟩
          have him : i < (ms.map ab).length := by simpa using hi
          have hy2 : y = .int (ms.map ab)[i] := by
            rw [List.getElem?_map, List.getElem?_eq_getElem him] at hy
            exact (Option.some.inj hy).symm
          subst hy2
          refine ⟨rfl, _, rfl, 10, 18, rfl, rfl, ⟨by decide, by decide, by decide⟩, _, _, rfl, rfl, _, rfl, ite2 (fun z => ?_) (fun z => ?_)⟩
          · have hz : decide (big ≤ (ms.map ab)[i]) = true := z
            refine ⟨_, rfl, _, eD2, ?_, same_at sm2 hD2, ?_⟩
            · rw [List.length_map]
              refine Nat.lt_of_le_of_lt (List.length_filter_le _ _) ?_
              rw [List.length_take]
              exact szl (by simp at him; omega)
            · rw [upd_same, List.take_add_one, List.getElem?_eq_getElem him, List.filter_append]
              have e1 : List.filter (fun x => decide (big ≤ x)) (some (ms.map ab)[i]).toList = [(ms.map ab)[i]] := by
                show List.filter (fun x => decide (big ≤ x)) [(ms.map ab)[i]] = _
                rw [List.filter_cons, if_pos hz]
                rfl
              rw [e1, vis, vis, List.map_append]
              rfl
          · have hz : ¬ decide (big ≤ (ms.map ab)[i]) = true := z
            refine ⟨sm2, ?_⟩
            rw [eD2, List.take_add_one, List.getElem?_eq_getElem him, List.filter_append]
            have e1 : List.filter (fun x => decide (big ≤ x)) (some (ms.map ab)[i]).toList = [] := by
              show List.filter (fun x => decide (big ≤ x)) [(ms.map ab)[i]] = _
              rw [List.filter_cons, if_neg hz]
              rfl
            rw [e1, List.append_nil]
        · rintro H3 ⟨sm2, eD2⟩
          rw [List.length_map, List.take_length] at eD2
          refine ⟨D2, _, rfl, SqL.of eD2, fun bb hbb => ⟨_, rfl, by show 2 ≤ sizeLine; decide, fun dd hdd => ?_⟩⟩
          have sm3 := same_new (o := HO.lst (vis ((ms.map ab).filter fun x => decide (big ≤ x))).reverse) hbb
          have nbd : bb ≠ dd := fun z => by rw [z, upd_same] at hdd; cases hdd
          have smA : Same H H3 := smH.trans sm2
          refine q _ dd bb ((smA.trans sm3).trans (same_new hdd)) ?_ ?_ ⟨((ms.map ab).filter fun x => decide (big ≤ x)).reverse, m, upd_same, ?_, ?_, ?_⟩
          · exact none_back (smA.trans sm3) hdd
          · exact none_back smA hbb
          · rw [upd_ne nbd, upd_same, vis, vis, List.map_reverse]
          · intro x hx
            have := (List.mem_filter.mp (List.mem_reverse.mp hx)).2
            have : big ≤ x := of_decide_eq_true this
            have hb : (0 : Int) ≤ big := by decide
            omega
          · rw [List.length_reverse]
            refine Nat.le_trans (List.length_filter_le _ _) ?_
            rw [List.length_map]
            omega
end
end EO
end
section
set_option Elab.async false
set_option linter.all false
set_option maxRecDepth 100000
set_option maxHeartbeats 1000000
/-! the tables -/
namespace EO
open PySem PySem.Spec PyProof.Rows L2
section
variable {X : Cx} {K : PySem.W.Frag} {o e : Expr} {es : List Expr} {to : TE} {t : TA} {name : Str} {apos cpos : Pos} {T id : String} {r : V → List V → Hp → VK → Prop}
theorem pe_bmC (hK : X.K = K) (pa : PlainAttrs T) (slot : Slot T name id) (hty : typeOf (.builtin id) = pure (.type "method_descriptor")) (hm : MtR X id r) (ho : PE X o to) (ha : PA X (e :: es) t)
    (hbase : attributeBase o name X.env (eval o X.env) = eval o X.env := by rfl)
    (hfew : ((backTo cpos (starEach (e :: es) X.env)).all (fun x => !x.1) && (backToKw cpos (keywordEach [] X.env)).all (fun x => x.1.isSome)
      && decide ((e :: es).length + ([] : List Keyword).length + (if ([] : List Keyword).isEmpty then 0 else 1) < 30)) = true := by rfl)
    (hline : (apos.endLine == cpos.line) = true := by rfl) (hs : starEach (e :: es) X.env = (false, eval e X.env) :: starEach es X.env := by rfl) (hplain : (backTo cpos (starEach es X.env)).any (·.1) = false := by rfl) :
    PE X (.Call (.Attribute o name apos) (e :: es) [] cpos) (tBM K T r to t) := by
  subst hK
  exact pe_bm pa slot hty hm ho ha hbase hfew hline hs hplain
def rTupOf (K : PySem.W.Frag) : List V → Hp → VK → Prop := fun xs H Q => ∃ p ys, xs = [.ref p] ∧ ((SqL K H p ys ∧ ∀ l, H l = none → Q (.ref l) (upd H l (.tup ys))) ∨ (SqT K H p ys ∧ Q (.ref p) H))
def rListOf (K : PySem.W.Frag) : List V → Hp → VK → Prop := fun xs H Q => ∃ p ys, xs = [.ref p] ∧ (SqL K H p ys ∨ SqT K H p ys) ∧ ∀ l, H l = none → Q (.ref l) (upd H l (.lst ys))
def rLenSeq (K : PySem.W.Frag) : List V → Hp → VK → Prop := fun xs H Q => ∃ p ys, xs = [.ref p] ∧ (SqL K H p ys ∨ SqT K H p ys) ∧ Q (.int ys.length) H
theorem call_tup : CallR X (.type "tuple") (rTupOf X.K) := call_tuple_of
theorem call_lst : CallR X (.type "list") (rListOf X.K) := call_list_of
theorem call_lens : CallR X (.builtin "len") (rLenSeq X.K) := call_len_seq
end
section
variable {P : Program} {w : World} {K : PySem.W.Frag} {mg : Str → Option Value} {base : Heap} {CM : Addr}
theorem first_at : ∀ (l : List Nat) (v : Nat), v ∈ l → ∃ j : Nat, l[j]? = some v ∧ ∀ m z : Nat, m < j → l[m]? = some z → z ≠ v
  | [], _, h => absurd h (by simp)
  | a :: l, v, h => by
    by_cases e : a = v
    · exact ⟨0, by rw [e]; rfl, fun m z hm => absurd hm (Nat.not_lt_zero _)⟩
    · have h2 : v ∈ l := by
        rcases List.mem_cons.mp h with h | h
        · exact absurd h.symm e
        · exact h
      obtain ⟨j, h3, h4⟩ := first_at l v h2
      refine ⟨j + 1, h3, fun m z hm hz => ?_⟩
      cases m with
      | zero =>
        have : a = z := Option.some.inj hz
        rw [← this]; exact e
      | succ m => exact h4 m z (by omega) hz
def natV : V → Nat
  | .int i => i.toNat
  | _ => 0
theorem perm_names {ys : List V} {l : List Nat} (h : ys.Perm (vns l)) : ∃ l', l'.Perm l ∧ ys = vns l' := by
  refine ⟨ys.map natV, ?_, ?_⟩
  · have := h.map natV
    rw [List.map_map] at this
    have e : (natV ∘ vn) = id := by funext x; show ((x : Int)).toNat = x; omega
    rw [e, List.map_id] at this
    exact this
  · rw [vns, List.map_map]
    conv => lhs; rw [← List.map_id ys]
    apply List.map_congr_left
    intro y hy
    obtain ⟨x, _, rfl⟩ := List.mem_map.mp (h.mem_iff.mp hy)
    show vn x = vn ((x : Int)).toNat
    rw [show ((x : Int)).toNat = x by omega]
theorem aff_onto : ∀ a, a < 5 → a ≠ 0 → ∀ b, b < 5 → ∀ v, v < 5 → ∃ k, k < 5 ∧ (a * k + b) % 5 = v := by decide
structure Nm (n : Nat) (l : List Nat) : Prop where
  len : l.length = n
  mem : ∀ x, x ∈ l ↔ x < n
  nd : l.Nodup
theorem nm_of {n : Nat} {l : List Nat} (h : l.Perm (List.range n)) : Nm n l :=
  ⟨by rw [h.length_eq, List.length_range], fun x => by rw [h.mem_iff, List.mem_range], h.nodup_iff.mpr List.nodup_range⟩
theorem Nm.ok {n : Nat} {l : List Nat} (h : Nm n l) : Ok n l := ⟨h.len, fun x hx => (h.mem x).mp hx⟩
theorem Nm.surj {n : Nat} {l : List Nat} (h : Nm n l) : Surj n l := fun y hy => by
  obtain ⟨i, hi, e⟩ := List.mem_iff_getElem.mp ((h.mem y).mpr hy)
  have e2 := ap_get hi
  rw [List.getElem?_eq_getElem hi, e] at e2
  exact ⟨i, by rw [← h.len]; exact hi, (Option.some.inj e2).symm⟩
theorem Nm.inj {n : Nat} {l : List Nat} (h : Nm n l) {i j v : Nat} (e1 : l[i]? = some v) (e2 : l[j]? = some v) : i = j := by
  obtain ⟨hi, e1⟩ := List.getElem?_eq_some_iff.mp e1
  obtain ⟨hj, e2⟩ := List.getElem?_eq_some_iff.mp e2
  exact (List.getElem_inj h.nd).mp (e1.trans e2.symm)
structure Aff (n : Nat) (l : List Nat) (a b : Nat) (js : List Nat) : Prop where
  at' : ∀ (i j : Nat), js[i]? = some j → l[j]? = some ((a * ap l i + b) % n)
theorem aff_ok {n a b : Nat} {l js : List Nat} (h : Nm n l) (hl : js.length = n) (A : Aff n l a b js) : Ok n js := ⟨hl, fun x hx => by
  obtain ⟨i, e⟩ := List.mem_iff_getElem?.mp hx
  have := (List.getElem?_eq_some_iff.mp (A.at' i x e)).1
  rw [h.len] at this
  exact this⟩
theorem aff_five {a b : Nat} {l js : List Nat} (h : Nm 5 l) (hl : js.length = 5) (A : Aff 5 l a b js) (ha : a < 5) (hb : b < 5) : Surj 5 js ∨ Cst 5 js := by
  have ok := aff_ok h hl A
  by_cases h0 : a = 0
  · subst h0
    refine .inr ⟨ap js 0, ok.ap_lt (by decide), fun x hx => ?_⟩
    have e1 := A.at' x _ (ap_get (by rw [hl]; exact hx))
    have e2 := A.at' 0 _ (ap_get (by rw [hl]; decide))
    rw [Nat.zero_mul, Nat.zero_add] at e1 e2
    exact h.inj e1 e2
  · refine .inl fun y hy => ?_
    have hv := h.ok.ap_lt hy
    obtain ⟨k, hk, ek⟩ := aff_onto a ha h0 b hb _ hv
    obtain ⟨i, hi, ei⟩ := h.surj k hk
    refine ⟨i, hi, ?_⟩
    have e1 := A.at' i _ (ap_get (by rw [hl]; exact hi))
    rw [ei, ek] at e1
    exact h.inj e1 (ap_get (by rw [h.len]; exact hy))
theorem kp_none {H H' : Hp} {d b p : Addr} (k : Kp d b H H') (de : De H' d b) (h : H' p = none) : H p = none := by
  cases e : H p with
  | none => rfl
  | some o =>
    have n := de.new h
    rw [k _ _ n.1 n.2 e] at h
    cases h
theorem pl_rg {H : Hp} {n : Nat} : ∀ v ∈ rgV 0 (n : Int), Pl H v := fun v hv => by
  rw [rg_id] at hv
  obtain ⟨y, _, rfl⟩ := List.mem_map.mp hv
  exact .inl ⟨_, rfl⟩
theorem len_rg {n : Nat} (h : n ≤ 1000) : (rgV 0 (n : Int)).length ≤ 1000 := by rw [rgV_length]; omega
theorem perm_rg {n : Nat} {ys : List V} (h : ys.Perm (rgV 0 (n : Int))) : ∃ l, Nm n l ∧ ys = vns l := by
  rw [rg_id] at h
  obtain ⟨l, a, e⟩ := perm_names h
  exact ⟨l, nm_of a, e⟩
theorem rep_flat (n v : Nat) : (List.replicate n [vn v]).flatten = vns (List.replicate n v) := by
  induction n with
  | zero => rfl
  | succ n ih => rw [List.replicate_succ, List.flatten_cons, ih, List.replicate_succ]; rfl
structure TabOk (n : Nat) (es : List Eff) : Prop where
  lo : 2 ≤ n
  hi : n ≤ 5
  one : 1 ≤ es.length
  few : es.length ≤ 3
  ok : ∀ e ∈ es, Ok n e
  five : n = 5 → ∀ e ∈ es, Surj 5 e ∨ Cst 5 e
def spTables : Sp := fun vs H Q _ => ∃ d b, vs = [.ref d] ∧ De H d b ∧ ∀ H' l xs es n, TabOk n es → Al (Ef H') xs es → Kp d b H H' → De H' d b → H' l = some (.lst xs) → H l = none → Q (.ref l) H'
abbrev sc__law_tablesN : List Str := ["_law_deal_here", "_law_size", "_law_names", "_law_found", "_law_turn", "_law_a", "_law_b", "_law_any_one", "_law_state", "_law_name"]
theorem sc__law_tables : FnScope sc__law_tablesN ["_law_deal_here"] (defScope (topS 58)) := ⟨rfl, rfl, rfl, by decide +kernel, rfl, by decide +kernel, by decide +kernel⟩
theorem ok__law_tables (D : Dfn K mg "_law_tables" (topS 58)) (T : Txt K mg CM) (c__law_any : Fn P w K mg base 1 "_law_any" spAny) (c__law_of : Fn P w K mg base 2 "_law_of" spOf) (c__law_mixed : Fn P w K mg base 2 "_law_mixed" (spMixed K)) : Fn P w K mg base 3 "_law_tables" spTables := by
  refine fn_by D sc__law_tables (fun _ _ _ _ _ _ us hl => match us, hl with | [_], _ => rfl) (fun vs H Q E h => ?_) (fun f cdv A outer s H vs Q E hr h => ?_)
  · obtain ⟨d, b, rfl, _⟩ := h
    rfl
  · obtain ⟨d, b, rfl, hde, q⟩ := h
    refine ⟨_, (pss_cons (ps_set (i := 1) sc__law_tables.nd rfl (Or.inr rfl) (pe_op op_add pe_int (pe_f c__law_any hr (by decide) rfl (pa_cons (pv 0) (pa_cons pe_int pa_nil)))))
 (pss_cons (ps_if (PW.pt (pw_and (pt_cmpR op_ne (pv 1) pe_int (nomark _)) (pw_and1 (pt_cmpR op_eq (pe_f c__law_any hr (by decide) rfl (pa_cons (pv 0) (pa_cons pe_int pa_nil))) pe_int (nomark _)))))
 (pss_cons (ps_asg (pe_tup (pa_cons (pe_f c__law_mixed hr (by decide) rfl (pa_cons (pv 0) (pa_cons (pe_listRg rfl rfl T.list (prg_1 rfl T.range (pv 1))) pa_nil))) (pa_cons (pe_lst pa_nil) pa_nil))) (pg_tup (n := 2) rfl (pgs_cons (pg_name (i := 2) sc__law_tables.nd rfl (Or.inr rfl)) (pgs_cons (pg_name (i := 3) sc__law_tables.nd rfl (Or.inl rfl)) pgs_nil))))
 (pss_cons (ps_for PassesOwn.never rfl (pi_range1 rfl T.range (pa_cons (pe_op op_add pe_int (pe_f c__law_any hr (by decide) rfl (pa_cons (pv 0) (pa_cons pe_int pa_nil)))) pa_nil)) (pg_name (i := 4) sc__law_tables.nd rfl (Or.inl rfl))
 (pss_cons (ps_asg (pe_tup (pa_cons (pe_f c__law_of hr (by decide) rfl (pa_cons (pv 0) (pa_cons (pe_lst (pa_cons pe_int (pa_cons pe_int (pa_cons (pe_f c__law_any hr (by decide) rfl (pa_cons (pv 0) (pa_cons (pv 1) pa_nil))) (pa_cons (pe_f c__law_any hr (by decide) rfl (pa_cons (pv 0) (pa_cons (pv 1) pa_nil))) pa_nil))))) pa_nil))) (pa_cons (pe_f c__law_any hr (by decide) rfl (pa_cons (pv 0) (pa_cons (pv 1) pa_nil))) pa_nil))) (pg_tup (n := 2) rfl (pgs_cons (pg_name (i := 5) sc__law_tables.nd rfl (Or.inr rfl)) (pgs_cons (pg_name (i := 6) sc__law_tables.nd rfl (Or.inr rfl)) pgs_nil))))
 (pss_one (ps_expr (pe_bm PySem.F.plainAttrs_list PySem.F.slot_list_append PySem.F.type_list_append mt_append (pv 3) (pa_cons (pe_callTy call_tuple_of rfl T.tuple PyProof.Rows.Boot.«tuple» (pa_cons (pe_lc (own := [("_law_name", 9)]) rfl sc__law_tables.nd (pi_list (pv 2)) (blkOk_by (N := sc__law_tablesN) (sc := defScope (topS 58)) (by decide +kernel)) (fun _ _ _ _ _ => (pg_name (i := 9) sc__law_tables.nd rfl (Or.inl rfl))) (fun _ _ _ _ _ => pts_nil) (fun _ _ _ _ _ => (pe_bmC (K := K) rfl PySem.F.plainAttrs_list PySem.F.slot_list_index PySem.F.type_list_index (mt_index : MtR _ _ (rIndex K)) (pv 2) (pa_cons (pe_op op_mod (pe_callTy call_int1 rfl T.int PyProof.Rows.Boot.«int» (pa_cons (pe_op op_add (pe_op op_mul (pv 5) (pv 9)) (pv 6)) pa_nil)) (pv 1)) pa_nil)))) pa_nil)) pa_nil))))))
 (pss_one (ps_ret (pv 3)))))
 pss_nil)
 (pss_cons (ps_if (pt_cmpR op_eq (pv 1) pe_int (nomark _))
 (pss_one (ps_ret (pe_lc (own := [("_law_turn", 4)]) rfl sc__law_tables.nd (pi_range1 rfl T.range (pa_cons pe_int pa_nil)) (blkOk_by (N := sc__law_tablesN) (sc := defScope (topS 58)) (by decide +kernel)) (fun _ _ _ _ _ => (pg_name (i := 4) sc__law_tables.nd rfl (Or.inl rfl))) (fun _ _ _ _ _ => pts_nil) (fun _ _ _ _ _ => (pe_callTy (call_tup : CallR _ _ (rTupOf K)) rfl T.tuple PyProof.Rows.Boot.«tuple» (pa_cons (pe_f c__law_mixed hr (by decide) rfl (pa_cons (pv 0) (pa_cons (pe_lst (pa_cons pe_int (pa_cons pe_int (pa_cons pe_int (pa_cons pe_int (pa_cons pe_int pa_nil)))))) pa_nil))) pa_nil))))))
 pss_nil)
 (pss_cons (ps_set (i := 3) sc__law_tables.nd rfl (Or.inl rfl) (pe_lst pa_nil))
 (pss_cons (ps_for PassesOwn.never rfl (pi_range1 rfl T.range (pa_cons (pe_op op_add pe_int (pe_f c__law_any hr (by decide) rfl (pa_cons (pv 0) (pa_cons pe_int pa_nil)))) pa_nil)) (pg_name (i := 4) sc__law_tables.nd rfl (Or.inl rfl))
 (pss_cons (ps_setLc (i := 7) (own := [("_law_state", 8)]) rfl sc__law_tables.nd rfl rfl (sw_true rfl rfl rfl (by decide +kernel)) (pi_range1 rfl T.range (pa_cons (pv 1) pa_nil)) (blkOk_by (N := sc__law_tablesN) (sc := defScope (topS 58)) (by decide +kernel)) (fun _ _ _ _ _ => (pg_name (i := 8) sc__law_tables.nd rfl (Or.inl rfl))) (fun _ _ _ _ _ => pts_nil) (fun _ _ _ _ _ => (pe_f c__law_any hr (by decide) rfl (pa_cons (pv 0) (pa_cons (pv 1) pa_nil)))))
 (pss_one (ps_expr (pe_bm PySem.F.plainAttrs_list PySem.F.slot_list_append PySem.F.type_list_append mt_append (pv 3) (pa_cons (pe_callTy call_tuple_of rfl T.tuple PyProof.Rows.Boot.«tuple» (pa_cons (pe_f c__law_of hr (by decide) rfl (pa_cons (pv 0) (pa_cons (pe_lst (pa_cons (pe_f c__law_mixed hr (by decide) rfl (pa_cons (pv 0) (pa_cons (pe_listRg rfl rfl T.list (prg_1 rfl T.range (pv 1))) pa_nil))) (pa_cons (pe_op op_rep (pe_lst (pa_cons (pe_ix ix_list (pv 7) pe_int (fun _ _ => rfl)) pa_nil)) (pv 1)) (pa_cons (pv 7) (pa_cons (pe_f c__law_mixed hr (by decide) rfl (pa_cons (pv 0) (pa_cons (pe_listRg rfl rfl T.list (prg_1 rfl T.range (pv 1))) pa_nil))) pa_nil))))) pa_nil))) pa_nil)) pa_nil))))))
 (pss_one (ps_ret (pv 3)))))))), ?_⟩
    refine ⟨.ref d, rfl, d, b, 4, rfl, by decide, by decide, hde, fun H1 x hx kp1 de1 => ⟨2, x, rfl, rfl, ?_⟩⟩
    obtain ⟨n, hn⟩ : ∃ n, n = 2 + x := ⟨_, rfl⟩
    have hn2 : 2 ≤ n := by omega
    have hn5 : n ≤ 5 := by omega
    have en : V.int ((2 : Int) + (x : Int)) = vn n := by rw [hn]; rfl
    show tSeq _ _ _ ((L2.start _ _).set 1 (some (V.int ((2 : Int) + (x : Int))))) H1
    rw [en]
    have good : ∀ H' p xs es, H p = none → (∀ e ∈ es, Ok n e) → (n = 5 → ∀ e ∈ es, Surj 5 e ∨ Cst 5 e) → 1 ≤ es.length → es.length ≤ 3 → Al (Ef H') xs es → Kp d b H H' → De H' d b → H' p = some (.lst xs) → Q (.ref p) H' :=
      fun H' p xs es hp h1 h2 h3 h4 h5 h6 h7 h8 => q H' p xs es n ⟨hn2, hn5, h3, h4, h1, h2⟩ h5 h6 h7 h8 hp
    refine ⟨_, rfl, rfl, _, rfl, ite2 (fun z1 => ⟨.ref d, rfl, d, b, 2, rfl, by decide, by decide, de1, fun H2 x2 hx2 kp2 de2 => ⟨rfl, _, rfl, ite2 (fun z2 => (have kA0 := kp1.trans kp2; ?aff)) (fun z2 => (have kA := kp1.trans kp2; have dA := de2; ?r1))⟩⟩) (fun z1 => (have kA := kp1; have dA := de1; ?r2))⟩
    case aff =>
      refine ⟨.ref d, rfl, vn n, rfl, n, rfl, RgOk.of_le (by decide) (by omega) (by decide) (by omega), fun pr hpr => ?_⟩
      rw [rg_id]
      refine ⟨d, b, pr, vns (idE n), rfl, de2.same (same_new hpr), SqL.of upd_same, ?_, by simp [idE]; omega, fun H3 l ys hperm kp3 de3 e3 hl3 => ?_⟩
      · intro v hv
        obtain ⟨y, _, rfl⟩ := List.mem_map.mp hv
        exact .inl ⟨_, rfl⟩
      obtain ⟨names, hper, rfl⟩ := perm_names hperm
      have nm := nm_of hper
      refine ⟨Nat.zero_le _, fun p hp => ⟨by show 2 ≤ sizeLine; decide, fun t ht => ⟨t, _, rfl, SqT.of upd_same, rfl, _, _, rfl, _, _, rfl, rfl, ?_⟩⟩⟩
      have smp := same_new (o := HO.lst []) hp
      have smt := same_new (o := HO.tup [V.ref l, V.ref p]) ht
      have hd0 : H p = none := kp_none ((kA0.trans (Kp.same (same_new hpr))).trans kp3) de3 hp
      have np : l ≠ p := ne_of_none e3 hp
      have nd := de3.new hp
      have nl : l ≠ d ∧ l ≠ b := de2.new (none_back (same_new hpr) hl3)
      have kB : Kp d b H _ := (kA0.trans (Kp.same (same_new hpr))).trans (kp3.trans ((Kp.same smp).trans (Kp.same smt)))
      have dB := (de3.same smp).same smt
      have eB := smt _ _ (smp _ _ e3)
      have epB := smt p _ upd_same
      refine ⟨.ref d, rfl, d, b, 3, rfl, by decide, by decide, dB, fun H5 x5 hx5 kp5 de5 => ⟨1, x5, rfl, rfl, _, rfl, by omega, by omega, for_it walk_range (fun i σ H' => ∃ x4 xa xb xs es, σ = [some (.ref d), some (vn n), some (.ref l), some (.ref p), x4, xa, xb, none, none, none] ∧ Kp d b H H' ∧ De H' d b ∧ H' l = some (.lst (vns names)) ∧
          H' p = some (.lst xs) ∧ Al (Ef H') xs es ∧ es.length = i ∧ (∀ e ∈ es, Ok n e) ∧ (n = 5 → ∀ e ∈ es, Surj 5 e ∨ Cst 5 e)) ⟨_, _, _, [], [], rfl, kB.trans kp5, de5, kp5 _ _ nl.1 nl.2 eB, kp5 _ _ nd.1 nd.2 epB, Al.nil, rfl, fun _ h => absurd h (by simp), fun _ _ h => absurd h (by simp)⟩ (fun _ _ _ _ _ => True.intro) ?_ ?_⟩⟩
      · rintro i y σ H6 H7 hi ⟨x4, xa, xb, xs, es, rfl, kp6, de6, el, ep, hal, hlen, hok, h5⟩ ⟨rfl, rfl⟩
        have hi3 : i < 3 := by omega
        have hany : vn n = V.int n := rfl
        refine ⟨.ref d, rfl, .ref d, rfl, vn n, rfl, d, b, n, rfl, by omega, by omega, de6, fun H8 a1 ha1 kp8 de8 => ⟨.ref d, rfl, vn n, rfl, d, b, n, rfl, by omega, by omega, de8, fun H9 a2 ha2 kp9 de9 => ⟨by show 4 ≤ sizeLine; decide, fun qq hqq => ⟨d, b, qq, _, rfl, de9.same (same_new hqq), upd_same, (de9.new hqq).1, (de9.new hqq).2, by simp, by simp, fun H10 ix xv hxv kp10 de10 => ?_⟩⟩⟩⟩
        obtain ⟨a, rfl, han⟩ : ∃ a : Nat, xv = vn a ∧ a < n := by
          match ix, hxv with
          | 0, h => exact ⟨0, (Option.some.inj h).symm, by omega⟩
          | 1, h => exact ⟨1, (Option.some.inj h).symm, by omega⟩
          | 2, h => exact ⟨a1, (Option.some.inj h).symm, ha1⟩
          | 3, h => exact ⟨a2, (Option.some.inj h).symm, ha2⟩
          | _ + 4, h => simp at h
        refine ⟨.ref d, rfl, vn n, rfl, d, b, n, rfl, by omega, by omega, de10, fun H11 bb hbb kp11 de11 => ⟨by show 2 ≤ sizeLine; decide, fun t2 ht2 => ⟨t2, _, rfl, SqT.of upd_same, rfl, _, _, rfl, _, _, rfl, rfl, ?_⟩⟩⟩
        have smq := same_new (o := HO.lst [V.int 0, V.int 1, vn a1, vn a2]) hqq
        have sm2 := same_new (o := HO.tup [vn a, vn bb]) ht2
        have kturn := kp8.trans (kp9.trans ((Kp.same smq).trans (kp10.trans (kp11.trans (Kp.same sm2)))))
        have kC := kp6.trans kturn
        have dC := de11.same sm2
        have el' := kturn _ _ nl.1 nl.2 el
        have ep' := kturn _ _ nd.1 nd.2 ep
        have hal' := hal.mono fun v e h => h.kt (de6.kt kturn)
        refine ⟨.ref p, rfl, .inl ⟨rfl, _, SqL.of ep'⟩, .ref l, rfl, l, rfl, ⟨_, SqL.of el'⟩, fun Dl hD => lc_it (walk_list (xs := vns names)) (fun i H' => Same (upd H11 t2 (.tup [vn a, vn bb])) H' ∧ ∃ js : List Nat, js.length = i ∧ (∀ k j : Nat, js[k]? = some j → names[j]? = some ((a * ap names k + bb) % n)) ∧ H' Dl = some (.lst (vns js))) ⟨same_new hD, [], rfl, by simp, upd_same⟩ (fun _ _ _ p => SqL.of (p.1 _ _ el')) ?_ ?_⟩
        · rintro k y H12 H13 hk ⟨sm, js, hjl, hjs, eD⟩ ⟨rfl, hy⟩
          obtain ⟨hkn, rfl⟩ := vns_at hy
          have hv : ((a * ap names k + bb) % n) < n := Nat.mod_lt _ (by omega)
          obtain ⟨j, hj, hjm⟩ := first_at names _ ((nm.mem _).mpr hv)
          have ev : V.int (((a : Int) * (ap names k : Int) + (bb : Int)) % (n : Int)) = vn ((a * ap names k + bb) % n) := by
            show _ = V.int (((a * ap names k + bb) % n : Nat) : Int)
            rw [Int.natCast_emod, Int.natCast_add, Int.natCast_mul]
          refine ⟨rfl, .ref l, rfl, .inl ⟨rfl, _, SqL.of (sm _ _ el')⟩, vn a, rfl, _, rfl, (a : Int), (ap names k : Int), rfl, rfl, .inl ⟨by omega, by omega⟩, _, rfl, _, _, rfl, rfl, .inl ⟨_, rfl, vn n, rfl, _, (n : Int), rfl, rfl, show (0 : Int) < (n : Int) by omega,
            l, vns names, vn ((a * ap names k + bb) % n), j, vn ((a * ap names k + bb) % n), rfl, congrArg (fun z => [z]) ev, SqL.of (sm _ _ el'), rfl, ?_, ?_, ?_, ?_, _, eD, ?_, same_at sm hD, js ++ [j], by simp [hjl], ?_, ?_⟩⟩
          · rw [List.all_map, List.all_eq_true]; exact fun _ _ => rfl
          · rw [List.getElem?_map, hj]; rfl
          · exact beq_self_eq_true _
          · intro m z' hm hz'
            obtain ⟨hml, rfl⟩ := vns_at hz'
            have := hjm m _ hm (ap_get hml)
            exact beq_eq_false_iff_ne.mpr fun q => this (Int.ofNat.inj q)
          · rw [List.length_map, hjl]
            have := nm.len
            exact szl (by omega)
          · intro k' j' hk'
            by_cases hlt : k' < js.length
            · rw [List.getElem?_append_left hlt] at hk'
              exact hjs k' j' hk'
            · rw [List.getElem?_append_right (by omega)] at hk'
              have hk0 : k' - js.length = 0 := by
                have := (List.getElem?_eq_some_iff.mp hk').1
                simp at this
                omega
              rw [hk0] at hk'
              have : j = j' := Option.some.inj hk'
              rw [← this, show k' = k by omega]
              exact hj
          · rw [upd_same]; exact congrArg (fun l => some (HO.lst l)) (vns_snoc js j)
        · rintro H12 ⟨sm, js, hjl, hjs, eD⟩
          rw [List.length_map, nm.len] at hjl
          refine ⟨Dl, vns js, rfl, .inl ⟨SqL.of eD, fun tt htt => ?_⟩⟩
          have smt3 := same_new (o := HO.tup (vns js)) htt
          have ep2 := smt3 _ _ (sm _ _ ep')
          refine ⟨p, xs, .ref tt, rfl, rfl, ep2, szl (by rw [hal.1]; omega), ?_⟩
          have k6 := kt_lst (o := HO.lst (xs ++ [.ref tt])) ep2
          have A : Aff n names a bb js := ⟨hjs⟩
          refine ⟨_, _, _, xs ++ [.ref tt], es ++ [js], rfl, ?_, ?_, ?_, upd_same, ?_, by simp [hlen], ?_, ?_⟩
          · intro c o m1 m2 hc
            rw [upd_ne (ne_of_none hc hd0)]
            exact smt3 _ _ (sm _ _ (kC c o m1 m2 hc))
          · obtain ⟨ns, m, f1, f2, f3⟩ := (dC.same sm).same smt3
            exact ⟨ns, m, by rw [upd_ne nd.1.symm]; exact f1, by rw [upd_ne nd.2.symm]; exact f2, f3⟩
          · rw [upd_ne np]; exact smt3 _ _ (sm _ _ el')
          · refine Al.snoc (hal'.mono fun v e h => ((h.sm sm).sm smt3).kt k6) ⟨tt, rfl, k6 _ _ upd_same⟩
          · intro e he
            rcases List.mem_append.mp he with he | he
            · exact hok e he
            · rw [List.mem_singleton.mp he]; exact aff_ok nm hjl A
          · intro e5 e he
            rcases List.mem_append.mp he with he | he
            · exact h5 e5 e he
            · rw [List.mem_singleton.mp he]
              subst e5
              exact aff_five nm hjl A han hbb
      · rintro σ H6 ⟨x4, xa, xb, xs, es, rfl, kp6, de6, el, ep, hal, hlen, hok, h5⟩
        exact ⟨.ref p, rfl, good _ p xs es hd0 hok h5 (by omega) (by omega) hal kp6 de6 ep⟩
    all_goals
      refine ⟨_, rfl, rfl, _, rfl, ite2 (fun z5 => ?_) (fun z5 => ?_)⟩
      · have e5 : n = 5 := by
          have := V.int.inj (of_decide_eq_true z5)
          omega
        refine ⟨2, rfl, by decide, by decide, fun Dl hD => lc_it walk_range (fun i H' => Kp d b H H' ∧ De H' d b ∧ ∃ xs es, H' Dl = some (.lst xs) ∧ Al (Ef H') xs es ∧ es.length = i ∧ ∀ e ∈ es, Ok 5 e ∧ Surj 5 e) ⟨kA.trans (Kp.same (same_new hD)), dA.same (same_new hD), [], [], upd_same, Al.nil, rfl, fun _ h => absurd h (by simp)⟩ (fun _ _ _ _ => True.intro) ?_ ?_⟩
        · rintro i y H6 H7 hi ⟨kp6, de6, xs, es, eD, hal, hlen, hok⟩ ⟨rfl, rfl⟩
          refine ⟨rfl, .ref d, rfl, by show 5 ≤ sizeLine; decide, fun p hp => ⟨d, b, p, vns (idE 5), rfl, de6.same (same_new hp), SqL.of upd_same, ?_, by decide, fun H8 l ys hperm kp8 de8 el hl => ?_⟩⟩
          · intro v hv
            obtain ⟨y, _, rfl⟩ := List.mem_map.mp hv
            exact .inl ⟨_, rfl⟩
          obtain ⟨names, hper, rfl⟩ := perm_names hperm
          have nm := nm_of hper
          have nD := dA.new hD
          have smp := same_new (o := HO.lst (vns (idE 5))) hp
          refine ⟨l, _, rfl, .inl ⟨SqL.of el, fun t ht => ?_⟩⟩
          have smt := same_new (o := HO.tup (vns names)) ht
          have kt8 := (Kp.same smp).trans (kp8.trans (Kp.same smt))
          have eD' := kt8 _ _ nD.1 nD.2 eD
          have k6 := kt_lst (o := HO.lst (xs ++ [.ref t])) eD'
          refine ⟨xs, eD', szl (by rw [hal.1, hlen]; simp at hi; omega), ?_, ?_, xs ++ [.ref t], es ++ [names], upd_same, ?_, by simp [hlen], ?_⟩
          · intro c o m1 m2 hc
            rw [upd_ne (ne_of_none hc (kp_none kA dA hD))]
            exact (kp6.trans kt8) c o m1 m2 hc
          · obtain ⟨ns, m, f1, f2, f3⟩ := de8.same smt
            exact ⟨ns, m, by rw [upd_ne nD.1.symm]; exact f1, by rw [upd_ne nD.2.symm]; exact f2, f3⟩
          · exact Al.snoc (hal.mono fun v e h => (h.kt (de6.kt kt8)).kt k6) ⟨t, rfl, k6 _ _ upd_same⟩
          · intro e he
            rcases List.mem_append.mp he with he | he
            · exact hok e he
            · rw [List.mem_singleton.mp he]; exact ⟨nm.ok, nm.surj⟩
        · rintro H6 ⟨kp6, de6, xs, es, eD, hal, hlen, hok⟩
          subst e5
          exact good _ Dl xs es (kp_none kA dA hD) (fun e he => (hok e he).1) (fun _ e he => .inl (hok e he).2) (by rw [hlen]; decide) (by rw [hlen]; decide) hal kp6 de6 eD
      · have e5 : n ≠ 5 := fun q => z5 (decide_eq_true (by rw [q]; rfl))
        refine ⟨Nat.zero_le _, fun p hp => ?_⟩
        have nd := dA.new hp
        have hp0 := kp_none kA dA hp
        refine ⟨.ref d, rfl, d, b, 3, rfl, by decide, by decide, dA.same (same_new hp), fun H5 x5 hx5 kp5 de5 => ⟨1, x5, rfl, rfl, _, rfl, by omega, by omega, for_it walk_range (fun i σ H' => ∃ x4 x7, σ = [some (.ref d), some (vn n), none, some (.ref p), x4, none, none, x7, none, none] ∧ Kp d b H H' ∧ De H' d b ∧
          ∃ xs es, H' p = some (.lst xs) ∧ Al (Ef H') xs es ∧ es.length = i ∧ ∀ e ∈ es, Ok n e) ⟨_, _, rfl, (kA.trans (Kp.same (same_new hp))).trans kp5, de5, [], [], kp5 _ _ nd.1 nd.2 upd_same, Al.nil, rfl, fun _ h => absurd h (by simp)⟩ (fun _ _ _ _ _ => True.intro) ?_ ?_⟩⟩
        · rintro i y σ H6 H7 hi ⟨x4, x7, rfl, kp7, de7, xs, es, ep, hal, hlen, hok⟩ ⟨rfl, rfl⟩
          have hi3 : i < 3 := by omega
          refine ⟨vn n, rfl, (n : Int), rfl, by omega, by omega, fun Dl hD => lc_it walk_range (fun i H' => Kp d b H7 H' ∧ De H' d b ∧ ∃ e : List Nat, e.length = i ∧ (∀ x ∈ e, x < n) ∧ H' Dl = some (.lst (vns e))) ⟨Kp.same (same_new hD), de7.same (same_new hD), [], rfl, fun _ h => absurd h (by simp), upd_same⟩ (fun _ _ _ _ => True.intro) ?_ ?_⟩
          · rintro k y H8 H9 hk ⟨kp8, de8, e, hel, hex, eD⟩ ⟨rfl, rfl⟩
            have nD := de7.new hD
            refine ⟨rfl, .ref d, rfl, vn n, rfl, d, b, n, rfl, by omega, by omega, de8, fun H10 v hv kp10 de10 => ⟨_, kp10 _ _ nD.1 nD.2 eD, szl (by rw [List.length_map]; omega), ?_, ?_, e ++ [v], by simp [hel], ?_, ?_⟩⟩
            · intro c o m1 m2 hc
              rw [upd_ne (ne_of_none hc hD)]
              exact (kp8.trans kp10) c o m1 m2 hc
            · obtain ⟨ns, m, f1, f2, f3⟩ := de10
              exact ⟨ns, m, by rw [upd_ne nD.1.symm]; exact f1, by rw [upd_ne nD.2.symm]; exact f2, f3⟩
            · intro x hx
              rcases List.mem_append.mp hx with hx | hx
              · exact hex x hx
              · rw [List.mem_singleton.mp hx]; exact hv
            · rw [upd_same]; exact congrArg (fun l => some (HO.lst l)) (vns_snoc e v)
          · rintro H8 ⟨kp8, de8, e, hel, hex, eD⟩
            have nD := de7.new hD
            have hen : e.length = n := by rw [hel]; omega
            have oke : Ok n e := ⟨hen, hex⟩
            have ep8 := kp8 _ _ nd.1 nd.2 ep
            refine ⟨.ref p, rfl, .inl ⟨rfl, _, SqL.of ep8⟩, .ref d, rfl, .ref d, rfl, vn n, rfl, (n : Int), rfl, RgOk.of_le (by decide) (by omega) (by decide) (by omega), fun pr hpr => ⟨d, b, pr, _, rfl, de8.same (same_new hpr), SqL.of upd_same, pl_rg, len_rg (by omega), fun H9 l1 ys1 hperm1 kp9 de9 el1 hl1 => ?_⟩⟩
            obtain ⟨nm1, hnm1, rfl⟩ := perm_rg hperm1
            have nl1 := (de8.same (same_new (o := HO.lst (rgV 0 (n : Int))) hpr)).new hl1
            have k89 := (Kp.same (d := d) (b := b) (same_new (o := HO.lst (rgV 0 (n : Int))) hpr)).trans kp9
            have eD9 := k89 _ _ nD.1 nD.2 eD
            refine ⟨.ref Dl, rfl, Dl, vns e, 0, vn (ap e 0), rfl, rfl, SqL.of eD9, at_vn (i := 0) (by omega), by show 1 ≤ sizeLine; decide, fun q1 hq1 => ⟨vn n, rfl, q1, (n : Int), _, rfl, rfl, upd_same, by omega, by omega, ?_, fun q2 hq2 => ?_⟩⟩
            · show 1 * ((n : Int)).toNat ≤ sizeLine
              exact sz (by omega)
            have sq1 := same_new (o := HO.lst [vn (ap e 0)]) hq1
            have sq2 := same_new (o := HO.lst (List.replicate ((n : Int)).toNat [vn (ap e 0)]).flatten) hq2
            refine ⟨.ref Dl, rfl, .ref d, rfl, vn n, rfl, (n : Int), rfl, RgOk.of_le (by decide) (by omega) (by decide) (by omega), fun pr2 hpr2 => ⟨d, b, pr2, _, rfl, ((de9.same sq1).same sq2).same (same_new hpr2), SqL.of upd_same, pl_rg, len_rg (by omega), fun H10 l2 ys2 hperm2 kp10 de10 el2 hl2 => ?_⟩⟩
            obtain ⟨nm2, hnm2, rfl⟩ := perm_rg hperm2
            have nl2 := (((de9.same sq1).same sq2).same (same_new (o := HO.lst (rgV 0 (n : Int))) hpr2)).new hl2
            refine ⟨by show 4 ≤ sizeLine; decide, fun q3 hq3 => ⟨d, b, q3, _, rfl, de10.same (same_new hq3), upd_same, (de10.new hq3).1, (de10.new hq3).2, by simp, by simp, fun H11 ix xv hxv kp11 de11 => ?_⟩⟩
            have k9q2 := (Kp.same (d := d) (b := b) sq1).trans (Kp.same sq2)
            have kq2 := (Kp.same (d := d) (b := b) (same_new (o := HO.lst (rgV 0 (n : Int))) hpr2)).trans kp10
            have k10 := (Kp.same (d := d) (b := b) (same_new (o := HO.lst [V.ref l1, V.ref q2, V.ref Dl, V.ref l2]) hq3)).trans kp11
            have nq2 := (de9.same sq1).new hq2
            have kall := kp8.trans (k89.trans (k9q2.trans (kq2.trans k10)))
            have erep : (List.replicate ((n : Int)).toNat [vn (ap e 0)]).flatten = vns (List.replicate n (ap e 0)) := by
              rw [show ((n : Int)).toNat = n by omega]
              exact rep_flat n _
            obtain ⟨lx, e', rfl, elx, oke'⟩ : ∃ lx e', xv = .ref lx ∧ H11 lx = some (.lst (vns e')) ∧ Ok n e' := by
              match ix, hxv with
              | 0, h => exact ⟨l1, nm1, (Option.some.inj h).symm, (k9q2.trans (kq2.trans k10)) _ _ nl1.1 nl1.2 el1, hnm1.ok⟩
              | 1, h => exact ⟨q2, List.replicate n (ap e 0), (Option.some.inj h).symm, (by rw [← erep]; exact (kq2.trans k10) _ _ nq2.1 nq2.2 upd_same), ⟨by simp, fun x hx => by rw [List.eq_of_mem_replicate hx]; exact oke.ap_lt (by omega)⟩⟩
              | 2, h => exact ⟨Dl, e, (Option.some.inj h).symm, (k9q2.trans (kq2.trans k10)) _ _ nD.1 nD.2 eD9, oke⟩
              | 3, h => exact ⟨l2, nm2, (Option.some.inj h).symm, k10 _ _ nl2.1 nl2.2 el2, hnm2.ok⟩
              | _ + 4, h => simp at h
            refine ⟨lx, _, rfl, .inl ⟨SqL.of elx, fun t ht => ?_⟩⟩
            have smt := same_new (o := HO.tup (vns e')) ht
            have kt8 := kall.trans (Kp.same smt)
            have ep' := kt8 _ _ nd.1 nd.2 ep
            have k6 := kt_lst (o := HO.lst (xs ++ [.ref t])) ep'
            refine ⟨p, xs, .ref t, rfl, rfl, ep', szl (by rw [hal.1, hlen]; omega), ?_⟩
            refine ⟨_, _, rfl, ?_, ?_, xs ++ [.ref t], es ++ [e'], upd_same, ?_, by simp [hlen], ?_⟩
            · intro c o m1 m2 hc
              rw [upd_ne (ne_of_none hc hp0)]
              exact (kp7.trans kt8) c o m1 m2 hc
            · obtain ⟨ns, m, f1, f2, f3⟩ := de11.same smt
              exact ⟨ns, m, by rw [upd_ne nd.1.symm]; exact f1, by rw [upd_ne nd.2.symm]; exact f2, f3⟩
            · exact Al.snoc (hal.mono fun v e h => (h.kt (de7.kt kt8)).kt k6) ⟨t, rfl, k6 _ _ upd_same⟩
            · intro z hz
              rcases List.mem_append.mp hz with hz | hz
              · exact hok z hz
              · rw [List.mem_singleton.mp hz]; exact oke'
        · rintro σ H6 ⟨x4, x7, rfl, kp6, de6, xs, es, ep, hal, hlen, hok⟩
          exact ⟨.ref p, rfl, good _ p xs es hp0 hok (fun q => absurd q e5) (by omega) (by omega) hal kp6 de6 ep⟩
end
end EO
end
section
set_option Elab.async false
set_option linter.all false
set_option maxRecDepth 100000
set_option maxHeartbeats 1000000
/-! rows -/
namespace EO
open PySem PySem.Spec PyProof.Rows L2
/-- a part of a row: a name, a row of names done k times, a stray 0 -/
inductive Pt | nm (x : Str) | pw (r : List Str) (k : Nat) | od
def PtR (H : Hp) (v : V) : Pt → Prop
  | .nm x => v = .str x
  | .pw r k => ∃ a y, v = .ref a ∧ H a = some (.tup [y, vn k]) ∧ Rw H y r
  | .od => v = .int 0
def Pok : Pt → Prop
  | .nm x => nmS x = true
  | .pw r k => (∀ x ∈ r, nmS x = true) ∧ k ≤ 1000 ∧ r.length ≤ 1000
  | .od => True
def isOd : Pt → Bool
  | .od => true
  | _ => false
def isPw : Pt → Prop
  | .pw _ _ => True
  | _ => False
/-- a row at v -/
def RowR (H : Hp) (v : V) (ps : List Pt) : Prop := ∃ a xs, v = .ref a ∧ H a = some (.tup xs) ∧ Al (PtR H) xs ps ∧ (∀ p ∈ ps, Pok p) ∧ ps.length ≤ 1000
theorem PtR.kt {H H' : Hp} {v : V} : ∀ {p : Pt}, PtR H v p → KT H H' → PtR H' v p
  | .nm _, h, _ => h
  | .pw _ _, ⟨a, y, e, h, r⟩, k => ⟨a, y, e, k _ _ h, r.kt k⟩
  | .od, h, _ => h
theorem RowR.kt {H H' : Hp} {v : V} {ps : List Pt} (h : RowR H v ps) (k : KT H H') : RowR H' v ps := let ⟨a, xs, e, h, al, o, l⟩ := h; ⟨a, xs, e, k _ _ h, al.mono fun _ _ q => q.kt k, o, l⟩
theorem rp_names {CM : Addr} {H : Hp} : ∀ r : List Str, RpAll CM H (vss r) (r.map PyData.str)
  | [] => .nil
  | x :: r => .cons (.str x) (rp_names r)
theorem Rw.rp {CM : Addr} {H : Hp} {v : V} {r : List Str} (h : Rw H v r) : Rp CM H v (.tuple (r.map PyData.str)) := by
  obtain ⟨a, rfl, h⟩ := h
  exact .tup h (rp_names r)
theorem nmS_len {x : Str} (h : nmS x = true) : x.length ≤ 8 := by
  unfold nmS at h
  simp only [Bool.and_eq_true, decide_eq_true_eq] at h
  exact h.2.1
/-- a row of names alone is a row -/
theorem Rw.row {H : Hp} {v : V} {r : List Str} (h : Rw H v r) (o : ∀ x ∈ r, nmS x = true) (l : r.length ≤ 1000) : RowR H v (r.map Pt.nm) := by
  obtain ⟨a, rfl, h⟩ := h
  refine ⟨a, _, rfl, h, ⟨by simp, fun i v x e1 e2 => ?_⟩, fun p hp => ?_, by simpa using l⟩
  · rw [List.getElem?_map] at e1 e2
    cases e : r[i]? with
    | none => rw [e] at e1; cases e1
    | some z =>
      rw [e] at e1 e2
      cases e1; cases e2
      exact rfl
  · obtain ⟨x, hx, rfl⟩ := List.mem_map.mp hp
    exact o x hx
section
variable {P : Program} {w : World} {K : PySem.W.Frag} {mg : Str → Option Value} {base : Heap} {CM : Addr}
def spPart (J : Prop) : Sp := fun vs H Q _ => ∃ v p dp, vs = [v, .int dp] ∧ PtR H v p ∧ Pok p ∧ 0 ≤ dp ∧ (isPw p → J ∧ 1 ≤ dp) ∧ ∀ H', Same H H' → Q (.bl (!isOd p)) H'
def spRow (J : Prop) : Sp := fun vs H Q _ => ∃ v ps dp, vs = [v, .int dp] ∧ RowR H v ps ∧ 1 ≤ dp ∧ ((∃ p ∈ ps, isPw p) → J ∧ 2 ≤ dp) ∧ ∀ H', Same H H' → Q (.bl (ps.all fun p => !isOd p)) H'
abbrev sc_part_fitsN : List Str := ["part", "depth"]
theorem sc_part_fits : FnScope sc_part_fitsN ["part", "depth"] (defScope (topS 23)) := ⟨rfl, rfl, rfl, by decide +kernel, rfl, by decide +kernel, by decide +kernel⟩
abbrev sc_row_fitsN : List Str := ["row", "depth", "part"]
theorem sc_row_fits : FnScope sc_row_fitsN ["row", "depth"] (defScope (topS 24)) := ⟨rfl, rfl, rfl, by decide +kernel, rfl, by decide +kernel, by decide +kernel⟩
theorem no_row_fits (D : Dfn K mg "row_fits" (topS 24)) : Fn P w K mg base 1 "row_fits" (fun vs H Q E => False ∧ spRow False vs H Q E) := by
  refine fn_by D sc_row_fits (fun _ _ _ _ _ _ us hl => match us, hl with | [_, _], _ => rfl) (fun vs H Q E h => absurd h.1 id) (fun f cdv A outer s H vs Q E hr h => absurd h.1 id)
theorem ok_part_fits (J : Prop) {k : Nat} (D : Dfn K mg "part_fits" (topS 23)) (T : Txt K mg CM) (c_is_name : Fn P w K mg base 2 "is_name" (spName CM)) (c_is_number : Fn P w K mg base 2 "is_number" (spNum CM))
    (hk : 2 ≤ k) (c_row_fits : Fn P w K mg base k "row_fits" (fun vs H Q E => J ∧ spRow False vs H Q E)) : Fn P w K mg base (k + 1) "part_fits" (spPart J) := by
  replace c_is_name := c_is_name.mono hk
  replace c_is_number := c_is_number.mono hk
  refine fn_by D sc_part_fits (fun _ _ _ _ _ _ us hl => match us, hl with | [_, _], _ => rfl) (fun vs H Q E h => ?_) (fun f cdv A outer s H vs Q E hr h => ?_)
  · obtain ⟨v, p, dp, rfl, _⟩ := h
    rfl
  · obtain ⟨v, p, dp, rfl, hv, hok, hdp, hpw, q⟩ := h
    refine ⟨_, (pss_cons (ps_if (pt_val (pe_f c_is_name hr (by first | decide | omega) rfl (pa_cons (pv 0) pa_nil)))
 (pss_one (ps_ret pe_bl))
 pss_nil)
 (pss_cons (ps_if (PW.pt (pw_or (pt_cmpR op_lt (pv 1) pe_int (nomark _)) (pw_or (pt_not (pt_val (pe_callB call_isi rfl T.isinstance PyProof.Rows.Boot.«isinstance» (pa_cons (pv 0) (pa_cons (pe_bltn (v := .ty "tuple") rfl T.tuple PyProof.Rows.Boot.«tuple» rfl) pa_nil))))) (pw_or1 (pt_cmpR op_ne (pe_callB call_len_seq rfl T.len PySem.boot_len (pa_cons (pv 0) pa_nil)) pe_int (nomark _))))))
 (pss_one (ps_ret pe_bl))
 pss_nil)
 (pss_one (ps_ret (pe_and (pe_f c_row_fits hr (by first | decide | omega) rfl (pa_cons (pe_ix ix_tup (pv 0) pe_int (fun _ _ => rfl)) (pa_cons (pv 1) pa_nil))) (pe_and (pe_f c_is_number hr (by first | decide | omega) rfl (pa_cons (pe_ix ix_tup (pv 0) pe_int (fun _ _ => rfl)) pa_nil)) (pe_one (pe_cmpR op_le (pe_ix ix_tup (pv 0) pe_int (fun _ _ => rfl)) (pe_k rfl T.MOST_TIMES) (nomark _))))))))), ?_⟩
    cases p with
    | nm x =>
      cases hv
      refine ⟨.str x, rfl, .str x, .str x, rfl, .str x, rfl, ?_, ?_⟩
      · intro y e; cases e
        have := nmS_len hok
        omega
      · intro H1 sm
        refine ⟨true, congrArg V.bl hok, ?_⟩
        exact q _ sm
    | pw r k =>
      obtain ⟨a, y, rfl, ha, hy⟩ := hv
      have hj := hpw trivial
      have hrp : Rp CM H (.ref a) (.tuple [.tuple (r.map PyData.str), .int k]) := .tup ha (.cons hy.rp (.cons (.int _) .nil))
      refine ⟨.ref a, rfl, .ref a, _, rfl, hrp, rfl, (fun x e => nomatch e), fun H1 sm => ⟨false, rfl, ?_⟩⟩
      have ha1 := sm _ _ ha
      have hrp1 := hrp.mono (kx sm)
      refine ⟨.int dp, rfl, dp, 0, rfl, rfl, _, rfl, ite2 (fun z => absurd z (by simp; omega)) (fun z => ?_)⟩
      obtain ⟨t, ty1, ty2⟩ := hrp1.tup_ty T
      refine ⟨.ref a, rfl, .ref a, .ty "tuple", t, .type "tuple", true, rfl, .ty _, ty1, ty2, true, rfl, .ref a, rfl, a, _, rfl, .inr (SqT.of ha1), rfl, false, rfl, ?_⟩
      have hall : ((r.map Pt.nm).all fun p => !isOd p) = true := by
        rw [List.all_map, List.all_eq_true]
        exact fun _ _ => rfl
      refine ⟨.ref a, rfl, a, _, 0, y, rfl, rfl, SqT.of ha1, rfl, .int dp, rfl, hj.1, y, r.map Pt.nm, dp, rfl, (hy.sm sm).row hok.1 hok.2.2, hj.2, ?_, fun H2 sm2 => ⟨true, congrArg V.bl hall, ?_⟩⟩
      · rintro ⟨p, hp, hp2⟩
        obtain ⟨x, _, rfl⟩ := List.mem_map.mp hp
        exact absurd hp2 id
      · have ha2 := sm2 _ _ ha1
        refine ⟨.ref a, rfl, a, _, 1, vn k, rfl, rfl, SqT.of ha2, rfl, vn k, .int k, rfl, .int _, rfl, true, congrArg V.bl (show isN (.int (k : Int)) = true from decide_eq_true (show (0 : Int) ≤ (k : Int) by omega)), .ref a, rfl, a, _, 1, vn k, rfl, rfl, SqT.of ha2, rfl, (k : Int), 1000000000000000000, rfl, rfl, ?_⟩
        have hk : decide ((k : Int) ≤ 1000000000000000000) = true := decide_eq_true (by have := hok.2.1; omega)
        show Q (.bl (decide ((k : Int) ≤ 1000000000000000000))) H2
        rw [hk]
        exact q _ (sm.trans sm2)
    | od =>
      cases hv
      refine ⟨.int 0, rfl, .int 0, .int 0, rfl, .int 0, rfl, (fun x e => nomatch e), fun H1 sm => ⟨false, rfl, ?_⟩⟩
      refine ⟨.int dp, rfl, dp, 0, rfl, rfl, _, rfl, ite2 (fun z => absurd z (by simp; omega)) (fun z => ?_)⟩
      refine ⟨.int 0, rfl, .int 0, .ty "tuple", .type "int", .type "tuple", false, rfl, .ty _, (Rp.int (CM := CM) (H := H1) 0).ty rfl, kit_tup (.int 0) rfl, false, rfl, ?_⟩
      exact q _ sm
theorem ok_row_fits (J : Prop) {k : Nat} (D : Dfn K mg "row_fits" (topS 24)) (T : Txt K mg CM) (c_part_fits : Fn P w K mg base k "part_fits" (spPart J)) : Fn P w K mg base (k + 1) "row_fits" (spRow J) := by
  refine fn_by D sc_row_fits (fun _ _ _ _ _ _ us hl => match us, hl with | [_, _], _ => rfl) (fun vs H Q E h => ?_) (fun f cdv A outer s H vs Q E hr h => ?_)
  · obtain ⟨v, ps, dp, rfl, _⟩ := h
    rfl
  · obtain ⟨v, ps, dp, rfl, ⟨a, xs, rfl, ha, hal, hok, hlen⟩, hdp, hpw, q⟩ := h
    refine ⟨_, (pss_one (ps_ret (pe_and (pe_callB call_isi rfl T.isinstance PyProof.Rows.Boot.«isinstance» (pa_cons (pv 0) (pa_cons (pe_bltn (v := .ty "tuple") rfl T.tuple PyProof.Rows.Boot.«tuple» rfl) pa_nil))) (pe_one (pe_callB (cr_all rfl) rfl T.all PyProof.Rows.Boot.«all» (pa_cons (pe_lc (own := [("part", 2)]) rfl sc_row_fits.nd (pi_tup (pv 0)) (blkOk_by (N := sc_row_fitsN) (sc := defScope (topS 24)) (by decide +kernel)) (fun _ _ _ _ _ => (pg_name (i := 2) sc_row_fits.nd rfl (Or.inl rfl))) (fun _ _ _ _ _ => pts_nil) (fun _ _ _ _ _ => (pe_f c_part_fits hr (by first | decide | omega) rfl (pa_cons (pv 2) (pa_cons (pe_op op_sub (pv 1) pe_int) pa_nil))))) pa_nil)))))), ?_⟩
    refine ⟨.ref a, rfl, .ref a, .ty "tuple", .type "tuple", .type "tuple", true, rfl, .ty _, .base (.tup ha), kit_tup (K := K) (.tuple []) rfl, true, rfl, ?_⟩
    refine ⟨.ref a, rfl, a, rfl, ⟨_, SqT.of ha⟩, fun Dl hD => lc_it walk_tup (fun i H' => Same H H' ∧ H' Dl = some (.lst ((ps.take i).map fun p => V.bl (!isOd p)))) ⟨same_new hD, upd_same⟩ (fun _ _ _ p => SqT.of (p.1 _ _ ha)) ?_ ?_⟩
    · rintro i y H1 H2 hi ⟨sm, eD⟩ ⟨rfl, hy⟩
      obtain ⟨p, hp, hyp⟩ := hal.at' hy
      have hmem := List.mem_of_getElem? hp
      refine ⟨rfl, y, rfl, .int dp, rfl, dp, 1, rfl, rfl, y, p, dp - 1, rfl, hyp.kt (kt sm), hok p hmem, by omega, fun h => ?_, fun H3 sm3 => ⟨_, sm3 _ _ eD, ?_, same_at (sm.trans sm3) hD, ?_⟩⟩
      · have := hpw ⟨p, hmem, h⟩
        exact ⟨this.1, by omega⟩
      · rw [List.length_map, List.length_take]
        exact szl (by omega)
      · rw [upd_same, List.take_add_one, hp, List.map_append]
        rfl
    · rintro H2 ⟨sm, eD⟩
      refine ⟨Dl, ps.map fun p => !isOd p, rfl, SqL.of ?_, ?_⟩
      · rw [eD, hal.1, List.take_length, List.map_map]
        rfl
      · rw [List.all_map]
        exact q _ sm
def spIsRow (CM : Addr) : Sp := fun vs H Q _ => ∃ v, vs = [v] ∧ ((∃ d, Rp CM H v d ∧ isT d = false ∧ Q (.bl false) H) ∨ ∃ ps, RowR H v ps ∧ ∀ H', Same H H' → Q (.bl (ps.all fun p => !isOd p)) H')
/-- any value that is no tuple -/
def spRowX (CM : Addr) : Sp := fun vs H Q E => (∃ v d dp, vs = [v, .int dp] ∧ Rp CM H v d ∧ isT d = false ∧ Q (.bl false) H) ∨ spRow True vs H Q E
theorem ok_row_fitsX {k : Nat} (D : Dfn K mg "row_fits" (topS 24)) (T : Txt K mg CM) (c_part_fits : Fn P w K mg base k "part_fits" (spPart True)) : Fn P w K mg base (k + 1) "row_fits" (spRowX CM) := by
  refine fn_by D sc_row_fits (fun _ _ _ _ _ _ us hl => match us, hl with | [_, _], _ => rfl) (fun vs H Q E h => ?_) (fun f cdv A outer s H vs Q E hr h => ?_)
  · rcases h with ⟨v, d, dp, rfl, _⟩ | ⟨v, ps, dp, rfl, _⟩
    · rfl
    · rfl
  · rcases h with ⟨v, d, dp, rfl, hv, hd, q⟩ | ⟨v, ps, dp, rfl, ⟨a, xs, rfl, ha, hal, hok, hlen⟩, hdp, hpw, q⟩
    · refine ⟨_, (pss_one (ps_ret (pe_and (pe_callB call_isi rfl T.isinstance PyProof.Rows.Boot.«isinstance» (pa_cons (pv 0) (pa_cons (pe_bltn (v := .ty "tuple") rfl T.tuple PyProof.Rows.Boot.«tuple» rfl) pa_nil))) (pe_one (pe_callB (cr_all rfl) rfl T.all PyProof.Rows.Boot.«all» (pa_cons (pe_lc (own := [("part", 2)]) rfl sc_row_fits.nd (pi_tup (pv 0)) (blkOk_by (N := sc_row_fitsN) (sc := defScope (topS 24)) (by decide +kernel)) (fun _ _ _ _ _ => (pg_name (i := 2) sc_row_fits.nd rfl (Or.inl rfl))) (fun _ _ _ _ _ => pts_nil) (fun _ _ _ _ _ => (pe_f c_part_fits hr (by first | decide | omega) rfl (pa_cons (pv 2) (pa_cons (pe_op op_sub (pv 1) pe_int) pa_nil))))) pa_nil)))))), ?_⟩
      obtain ⟨t, ty1, ty2⟩ := hv.tup_ty T
      rw [hd] at ty2
      exact ⟨v, rfl, v, .ty "tuple", t, .type "tuple", false, rfl, .ty _, ty1, ty2, false, rfl, q⟩
    · refine ⟨_, (pss_one (ps_ret (pe_and (pe_callB call_isi rfl T.isinstance PyProof.Rows.Boot.«isinstance» (pa_cons (pv 0) (pa_cons (pe_bltn (v := .ty "tuple") rfl T.tuple PyProof.Rows.Boot.«tuple» rfl) pa_nil))) (pe_one (pe_callB (cr_all rfl) rfl T.all PyProof.Rows.Boot.«all» (pa_cons (pe_lc (own := [("part", 2)]) rfl sc_row_fits.nd (pi_tup (pv 0)) (blkOk_by (N := sc_row_fitsN) (sc := defScope (topS 24)) (by decide +kernel)) (fun _ _ _ _ _ => (pg_name (i := 2) sc_row_fits.nd rfl (Or.inl rfl))) (fun _ _ _ _ _ => pts_nil) (fun _ _ _ _ _ => (pe_f c_part_fits hr (by first | decide | omega) rfl (pa_cons (pv 2) (pa_cons (pe_op op_sub (pv 1) pe_int) pa_nil))))) pa_nil)))))), ?_⟩
      refine ⟨.ref a, rfl, .ref a, .ty "tuple", .type "tuple", .type "tuple", true, rfl, .ty _, .base (.tup ha), kit_tup (K := K) (.tuple []) rfl, true, rfl, ?_⟩
      refine ⟨.ref a, rfl, a, rfl, ⟨_, SqT.of ha⟩, fun Dl hD => lc_it walk_tup (fun i H' => Same H H' ∧ H' Dl = some (.lst ((ps.take i).map fun p => V.bl (!isOd p)))) ⟨same_new hD, upd_same⟩ (fun _ _ _ p => SqT.of (p.1 _ _ ha)) ?_ ?_⟩
      · rintro i y H1 H2 hi ⟨sm, eD⟩ ⟨rfl, hy⟩
        obtain ⟨p, hp, hyp⟩ := hal.at' hy
        have hmem := List.mem_of_getElem? hp
        refine ⟨rfl, y, rfl, .int dp, rfl, dp, 1, rfl, rfl, y, p, dp - 1, rfl, hyp.kt (kt sm), hok p hmem, by omega, fun h => ?_, fun H3 sm3 => ⟨_, sm3 _ _ eD, ?_, same_at (sm.trans sm3) hD, ?_⟩⟩
        · have := hpw ⟨p, hmem, h⟩
          exact ⟨this.1, by omega⟩
        · rw [List.length_map, List.length_take]
          exact szl (by omega)
        · rw [upd_same, List.take_add_one, hp, List.map_append]
          rfl
      · rintro H2 ⟨sm, eD⟩
        refine ⟨Dl, ps.map fun p => !isOd p, rfl, SqL.of ?_, ?_⟩
        · rw [eD, hal.1, List.take_length, List.map_map]
          rfl
        · rw [List.all_map]
          exact q _ sm
abbrev sc_is_rowN : List Str := ["value"]
theorem sc_is_row : FnScope sc_is_rowN ["value"] (defScope (topS 25)) := ⟨rfl, rfl, rfl, by decide +kernel, rfl, by decide +kernel, by decide +kernel⟩
theorem ok_is_row {k : Nat} (D : Dfn K mg "is_row" (topS 25)) (T : Txt K mg CM) (c_row_fits : Fn P w K mg base k "row_fits" (spRowX CM)) : Fn P w K mg base (k + 1) "is_row" (spIsRow CM) := by
  refine fn_by D sc_is_row (fun _ _ _ _ _ _ us hl => match us, hl with | [_], _ => rfl) (fun vs H Q E h => ?_) (fun f cdv A outer s H vs Q E hr h => ?_)
  · obtain ⟨v, rfl, _⟩ := h
    rfl
  · obtain ⟨v, rfl, h⟩ := h
    refine ⟨_, (pss_one (ps_ret (pe_f c_row_fits hr (by first | decide | omega) rfl (pa_cons (pv 0) (pa_cons (pe_k rfl T.DEEPEST) pa_nil))))), ?_⟩
    refine ⟨v, rfl, ?_⟩
    rcases h with ⟨d, hv, hd, q⟩ | ⟨ps, hv, q⟩
    · exact .inl ⟨v, d, 8, rfl, hv, hd, q⟩
    · exact .inr ⟨v, ps, 8, rfl, hv, by decide, fun _ => ⟨True.intro, by decide⟩, q⟩
/-- the chain -/
theorem row_chain (Dr : Dfn K mg "row_fits" (topS 24)) (Dp : Dfn K mg "part_fits" (topS 23)) (Di : Dfn K mg "is_row" (topS 25)) (T : Txt K mg CM) (c_is_name : Fn P w K mg base 2 "is_name" (spName CM)) (c_is_number : Fn P w K mg base 2 "is_number" (spNum CM)) :
    Fn P w K mg base 7 "is_row" (spIsRow CM) := by
  have a := ok_part_fits False Dp T c_is_name c_is_number (Nat.le_refl 2) ((no_row_fits (P := P) (w := w) (base := base) Dr).mono (show 1 ≤ 2 by decide))
  have b := ok_row_fits False Dr T a
  have c := ok_part_fits True Dp T c_is_name c_is_number (show 2 ≤ 4 by decide) (b.imp fun vs H Q E h => h.2)
  exact ok_is_row Di T (ok_row_fitsX Dr T c)
end
end EO
end
section
set_option Elab.async false
set_option linter.all false
set_option maxRecDepth 100000
set_option maxHeartbeats 2000000
/-! own exceptions whose __init__ says super().__init__(text); self.field = value -/
namespace PySem
namespace EOX
open Builtin Builtin.ObjectAttr PySem.W
/-- what is asked of the built-in at the head: its __new__ -/
structure XNew (B newId : String) (tail : List Value) : Prop where
  ex : ∃ initId bmB, ExcBaseFacts B newId initId bmB
  hb : tail.contains (.type B) = true
  ha : tail.contains (.type "AttributeError") = false
  hn : tail.contains (.type "NameError") = false
theorem xc {C : Addr} {l : List Value} {T : String} {r : Bool} (h : l.contains (.type T) = r) : (Value.ref C :: l).contains (.type T) = r := by
  rw [List.contains_cons, h, show (Value.type T == Value.ref C) = false from rfl, Bool.false_or]
section
variable {prog : Program} {w : World} {A : Around} {E : Value → Shared → Prop} {R : Result → Shared → Prop} {h : Heap} {g : Array GenState} {d : Drawn} {t : Nat} {os : OsState}
variable {nm q : Str} {C N : Addr} {bs bm : List Value} {hdct : Bool} {sn : List Str} {sub : List Value} {ab : Bool} {col : Option Bool} {dd : Option Addr} {k0 k1 k2 k3 k5 : Option Value} {B newId : String}
theorem x_new (F : XNew B newId bm) (hC : h.get? C = some (excClassObj nm q C N bs bm hdct sn sub ab col dd k0 k1 k2 k3 k5 newId)) {us : List Value} (hz : us.length ≤ sizeLine)
    (fin : R (.ok (.ret (.ref (h.objs.size + 1)))) ⟨(h.push (kdv_tup us)).push (HandSPX.excO C h.objs.size), g, d, t, os⟩) : codeAny (model prog w) A (.builtin newId ⟨.ref C :: us, []⟩) R ⟨h, g, d, t, os⟩ := by
  obtain ⟨⟨initId, bmB, F0⟩, fb, fa, fn⟩ := F
  have z1 := xc (C := C) fb; have z2 := xc (C := C) fa; have z3 := xc (C := C) fn; have ends := F0.ends
  refine codeAny_builtinAt F0.entry ?_; unfold Builtin.«BaseException.__new__»
  refine wpAt_bind ?_; show wpAt _ _ _ (stack >>= _) _ _ _
  refine wpAt_bind (wpAt_stack fun _ _ => wpAt_of_wpAny ?_); wp_walk; refine wpAt_of_wpAny ?_; rw [F0.owner]
  repeat (first | with_reducible refine wpAny_madeHere_exc F0.canon hC ?_ | with_reducible refine wpAny_loadPart_at hC ?_ | (with_reducible refine wpAny_isSubtype_exc hC ?_; first | rw [z1] | rw [z2] | rw [z3]) | wp_step)
  show R _ _; rw [Heap.size_push]; exact fin
theorem x_check (F : XNew B newId bm) (hC : h.get? C = some (excClassObj nm q C N bs bm hdct sn sub ab col dd k0 k1 k2 k3 k5 newId)) {us : List Value} {Q : Unit → Shared → Prop} (hq : Q () ⟨h, g, d, t, os⟩) :
    wpAny (model prog w) A (checkBuiltinCall newId ⟨.ref C :: us, []⟩) Q E ⟨h, g, d, t, os⟩ := by
  obtain ⟨⟨initId, bmB, F0⟩, fb, _, _⟩ := F
  have z1 := xc (C := C) fb; have ns := F0.noStar
  simp only [checkBuiltinCall, F0.newKind, F0.newRow, F0.newSplit]
  repeat (first | (refine wpAny_isSubtype_exc hC ?_; rw [z1]) | refine wpAny_loadPart_at hC ?_ | refine wpAny_madeBy_exc hC ?_ | refine wpAny_staticBase_exc hC ?_ | wp_step | simp only [if_false, bne_self_eq_false, Bool.false_eq_true])
  exact hq
theorem x_tcall (F : XNew B newId bm) {us : List Value} {fI : Addr} {Q : PySem.Fin → Shared → Prop} (hC : h.get? C = some (excClassObj nm q C N bs bm hdct sn sub ab col dd k0 k1 k2 k3 k5 newId))
    (hi : Looks (model prog w) h (typeLookup (.ref C) "__init__") (some (.ref fI))) (hb : ∀ self, Looks (model prog w) h (bindSpecial (.ref fI) self) (.ref fI, [self])) (hz : us.length ≤ sizeLine)
    (hq : codeAny (model prog w) A (.call (.ref fI) ⟨.ref (h.objs.size + 1) :: us, []⟩) (fun r s' => match r with | .ok (.ret v) => v = .none ∧ Q (.done (.ret (.ref (h.objs.size + 1)))) s' | .ok _ => False | .error e => E e s')
      ⟨(h.push (kdv_tup us)).push (HandSPX.excO C h.objs.size), g, d, t, os⟩) : wpAny (model prog w) A (Builtin.«type.__call__» ⟨.ref C :: us, []⟩) Q E ⟨h, g, d, t, os⟩ := by
  have quiet : newId.startsWith "lifetime." = false := let ⟨_, _, F0⟩ := F.ex; F0.quiet
  repeat (first | with_reducible refine wpAny_madeBy_exc hC ?_ | with_reducible refine wpAny_loadPart_at hC ?_ | wp_step)
  refine codeAny_call_builtin_code (Code.quiet_builtin _ quiet) (x_check F hC (x_new F hC hz (show wpAny _ _ _ _ _ _ from ?_)))
  have up : ∀ b o, h.get? b = some o → ((h.push (kdv_tup us)).push (HandSPX.excO C h.objs.size)).get? b = some o := fun b o e => Heap.get?_push_of_some _ (Heap.get?_push_of_some _ e)
  have there : ((h.push (kdv_tup us)).push (HandSPX.excO C h.objs.size)).get? (h.objs.size + 1) = some (HandSPX.excO C h.objs.size) := by heap_get
  have self : (Value.ref C :: bm).contains (.ref C) = true := by simp
  have hC2 := up _ _ hC; have i2 := hi.keeps up; have b2 := (hb (.ref (h.objs.size + 1))).keeps up
  unfold isInstance
  repeat (first | (with_reducible refine wpAny_isSubtype_exc hC2 ?_; rw [self]) | with_reducible refine wpAny_loadPart_at there ?_ | wp_step)
  show wpAny _ _ (typeLookup (.ref C) _) _ _ _
  refine i2.at (wpAny_holding (wpAny_bind (b2.at (wpAny_bind (wpAny_call (codeAny_mono hq fun r s' z => ?_))))))
  rcases r with e | (v | _ | _ | _) <;> first | exact False.elim z | exact z | skip
  obtain ⟨rfl, z⟩ := z; first | exact wpAny_pure (wpAny_pure z) | (wp_walk; exact z)
theorem x_call (F : XNew B newId bm) {us : List Value} {fI : Addr} (hC : h.get? C = some (excClassObj nm q C N bs bm hdct sn sub ab col dd k0 k1 k2 k3 k5 newId))
    (hi : Looks (model prog w) h (typeLookup (.ref C) "__init__") (some (.ref fI))) (hb : ∀ self, Looks (model prog w) h (bindSpecial (.ref fI) self) (.ref fI, [self])) (hz : us.length ≤ sizeLine)
    (hq : codeAny (model prog w) (A.under (.builtin "type.__call__" ⟨.ref C :: us, []⟩)) (.call (.ref fI) ⟨.ref (h.objs.size + 1) :: us, []⟩) (InitBack (h.objs.size + 1) R) ⟨(h.push (kdv_tup us)).push (HandSPX.excO C h.objs.size), g, d, t, os⟩) :
    codeAny (model prog w) A (.call (.ref C) ⟨us, []⟩) R ⟨h, g, d, t, os⟩ := by
  have f1 := _root_.PySem.tc_lookup; have f2 := _root_.PySem.tc_bind (.ref C)
  have hTy : (⟨h, g, d, t, os⟩ : Shared).TypeIs (.ref C) "type" := ⟨_, hC, rfl⟩
  refine codeAny_of_tree (show wpAny _ _ (callAny (.ref C) _) _ _ _ from ?_)
  repeat (any_goals (first | with_reducible refine wpAny_loadPart_at hC ?_ | assumption | wp_step))
  refine ⟨rfl, codeAny_call_builtin_at (Code.quiet_builtin _ (by decide +kernel)) _root_.PySem.entry_typeCall (wpAny_check_type_call_sub hC (x_tcall F hC hi hb hz ?_))⟩
  exact codeAny_mono hq fun r s' z => by rcases r with e | (v | _ | _ | _) <;> exact z
end
end EOX
end PySem
end
section
set_option Elab.async false
set_option linter.all false
set_option maxRecDepth 100000
set_option maxHeartbeats 2000000
/-! the __init__'s body at the machine -/
namespace PySem
namespace EOX
open Builtin Builtin.ObjectAttr PySem.W
/-- what is asked of the built-in __init__ -/
structure XIni (B i : String) : Prop where
  kx : KxsFacts B i
  kind : builtinKind i = some .slot
  row : Manifest.signature? i = some ⟨.positional, "*", B, .self, [⟨"args", .varPos, false⟩]⟩
  ns : (B != "*") = true
  plain : plainId i = true
  entry : entryFor table i = some Builtin.«BaseException.__init__»
theorem xini_Exception : XIni "Exception" "Exception.__init__" := ⟨kxs_Exception, F.excCall_Exception.initKind, F.excCall_Exception.initRow, F.excCall_Exception.noStar, F.excCall_Exception.init.plain, F.excCall_Exception.initEntry⟩
theorem xini_KeyError : XIni "KeyError" "KeyError.__init__" where
  kx := ⟨by show builtinType _ = _; rw [builtinType_eq_fast]; kernel_rfl, by first | kernel_rfl | rfl⟩
  kind := PyProof.Rows.excClass_KeyError.initKind
  row := PyProof.Rows.excClass_KeyError.initSig
  ns := PyProof.Rows.excClass_KeyError.notStar
  plain := PyProof.Rows.excClass_KeyError.init.plain
  entry := PyProof.Rows.excClass_KeyError.initEntry
section
variable {prog : Program} {w : World} {A : Around} {E : Value → Shared → Prop} {R : Result → Shared → Prop} {h hp : Heap} {g : Array GenState} {d : Drawn} {t : Nat} {os : OsState}
variable {nm q : Str} {C N : Addr} {bs bm : List Value} {hdct : Bool} {sn : List Str} {sub : List Value} {ab : Bool} {col : Option Bool} {dd : Option Addr} {k0 k1 k2 k3 k5 : Option Value} {B newId i : String}
/-- super().__init__(..) -/
theorem x_bound (F : XIni B i) {u e t0 : Addr} {us : List Value} {Q : Value → Shared → Prop} (hC : h.get? C = some (excClassObj nm q C N bs bm hdct sn sub ab col dd k0 k1 k2 k3 k5 newId)) (he : h.get? e = some (HandSPX.excO C t0)) (hu : h.get? u = some (kxs_mw i e)) (hz : us.length ≤ sizeLine)
    (fin : ∀ h' t1, (∀ b o, b ≠ e → h.get? b = some o → h'.get? b = some o) → h'.get? e = some (HandSPX.excO C t1) → Q .none ⟨h', g, d, t, os⟩) : wpAny (model prog w) A (call (.ref u) us) Q E ⟨h, g, d, t, os⟩ := by
  have star := F.ns
  refine wpAny_call (codeAny_of_tree (show wpAny _ A.in1 (callAny (.ref u) ⟨us, []⟩) _ _ _ from ?_)); simp only [callAny]
  refine wpAny_bind (wpAny_load hu ?_)
  rw [show (kxs_mw i e).cls = .type "method-wrapper" from rfl, show (kxs_mw i e).data = .fields #[.builtin i, .ref e] from rfl]
  refine KFB.if_so (by decide) (wpAny_bind ?_)
  have ck : ∀ {Q' : Unit → Shared → Prop} {E' : Value → Shared → Prop}, Q' () ⟨h, g, d, t, os⟩ → wpAny (model prog w) A.in1 (checkBoundCall i ⟨.ref e :: us, []⟩) Q' E' ⟨h, g, d, t, os⟩ := fun {Q' E'} z => by
    simp only [checkBoundCall, F.row, F.kind]
    repeat (first | with_reducible refine wpAny_loadPart_at he ?_ | with_reducible refine wpAny_loadPart_at hC ?_ | wp_step)
    refine wpAny_onRaise ?_
    rw [show ∀ (a b : String) (n : Nat), Bind.check ⟨.positional, "*", B, .self, [⟨"args", .varPos, false⟩]⟩ a b n (List.map Prod.fst ({ pos := Value.ref e :: us } : Args).kw) = pure () from fun a b n => check_star_args _ _ _ _ _ _]
    exact wpAny_pure z
  refine ck (wpAny_bind (wpAny_pure (wpAny_pure ⟨plainId_quiet F.plain _, codeAny_builtin F.entry ?_⟩)))
  exact exc_init_tree (cls := .ref C) (dv := none) (c2 := .none) (c3 := .none) (b4 := .bool false) he hz fun h' k e' _ => fin h' _ k e'
/-- self.f = v, the first field -/
theorem x_osa {K : Frag} {name : Str} {tk : Tok} {v : Value} {x : Addr} {fv : Array Value} {cd : ClassData} (X : K.In hp) (hx : hp.get? x = some { cls := .ref C, data := .fields fv }) (hcd : clsIn K C = some cd)
    (pass : ∀ self, refuseLoop self "__setattr__" cd.mro = pure ()) (hob : mroIn K C (.type "object") = some true) (hh : cd.hasDict = true) (ha : findIn K (.ref C) name = some none)
    (fin : ∀ h' tk' dx, (∀ b o, b ≠ x → hp.get? b = some o → h'.get? b = some o) → hp.objs.size ≤ dx → dx ≠ x → h'.get? x = some { cls := .ref C, dict := some dx, data := .fields fv } → h'.Ns1 dx (fun y => if y = name then some v else none) → R (.ok (.ret .none)) ⟨h', g, d, tk', os⟩) :
    codeAny (model prog w) A (.call (.builtin "object.__setattr__") ⟨[.ref x, .str name tk, v], []⟩) R ⟨hp, g, d, t, os⟩ := by
  have SF := F.store_object; have apart : x ≠ hp.objs.size := Nat.ne_of_lt (Heap.lt_size hx)
  have I : InstAt hp x { cls := .ref C, data := .fields fv } C none := ⟨hx, rfl, rfl, trivial⟩
  have isO : Looks (model prog w) hp (isInstance (.ref x) (.type "object")) true := I.type.andThen (looks_mroIn X hob)
  refine codeAny_call_builtin SF.slot.plain SF.entry (@check_slot (model prog w) _ _ ⟨hp, g, d, t, os⟩ "object.__setattr__" "object" "__setattr__" (.ref x) [.str name tk, v] [] _ SF.kind SF.split isO (SF.args (.ref x) (.str name tk) v) ?_)
  have mr : Looks (model prog w) hp (mroOf (.ref C)) cd.mro := (looks_clsIn X hcd).andThen .now
  have no : Looks (model prog w) hp (storeTaker? none) none := .now; have cl : Looks (model prog w) hp (classData C) cd := looks_clsIn X hcd
  rw [osa_eq, refuse_eq]; refine wpAny_bind (wpAny_bind (I.type.at (wpAny_bind (mr.at ?_)))); rw [pass]
  refine wpAny_pure (wpAny_bind (I.type.at (wpAny_bind ((looks_findIn X ha).at (wpAny_bind (no.at (show wpAny _ _ (storeInOwnDict (.ref x) (.ref C) (.str name tk) name v false) _ _ _ from ?_)))))))
  obtain ⟨nm, bs, mro, ns, qn, hd, sn, sb, ab, col, del⟩ := cd; dsimp only at hh; subst hh
  unfold storeInOwnDict ownDictForStores
  repeat (first | with_reducible refine wpAny_loadPart_at hx ?_ | with_reducible refine HandSPX.store_in_new ?_ ?_ | with_reducible refine cl.at ?_ | wp_step)
  · exact ⟨_, #[], _, (Heap.get?_update_ne _ _ _ _ apart.symm).trans (Heap.get?_push_at rfl rfl), rfl, fun e he => absurd he (by simp), fun _ => rfl⟩
  · intro h' tk' hn' hs; have hx1 : (hp.push { cls := .type "dict", data := .dict #[] }).get? x = some { cls := .ref C, data := .fields fv } := Heap.get?_push_of_some _ hx
    exact fin h' tk' hp.objs.size (fun b o hb ho => (hs.2 b (Nat.ne_of_lt (Heap.lt_size ho))).trans ((Heap.get?_update_ne _ _ _ _ hb).trans (Heap.get?_push_of_some _ ho))) (Nat.le_refl _) apart.symm ((hs.2 x apart).trans (Heap.get?_update_self _ hx1 rfl)) hn'
end
end EOX
end PySem
end
section
set_option Elab.async false
set_option linter.all false
set_option maxRecDepth 100000
set_option maxHeartbeats 2000000
/-! the __init__ walked, the class called, the raise -/
namespace PySem
namespace EOX
open Builtin Builtin.ObjectAttr PySem.W PySem.Calls
/-- what the written part says of such a class -/
structure XCls (K : Frag) (p : Program) (C fI : Addr) (fld slf arg : Str) (msg : Str) : Prop where
  ex : ∃ (nm q : Str) (N : Addr) (bs bm : List Value) (sn : List Str) (sub : List Value) (ab : Bool) (col : Option Bool) (dd : Option Addr) (k0 k1 k2 k3 k5 : Option Value) (B newId Bi i : String),
    K.lookup C = some (excClassObj nm q C N bs bm true sn sub ab col dd k0 k1 k2 k3 k5 newId) ∧ XNew B newId bm ∧ XIni Bi i ∧ (∀ s, refuseLoop s "__setattr__" (.ref C :: bm) = pure ()) ∧ mroIn K C (.type "object") = some true ∧
    alongIn K "__init__" bm = some (some (.builtin i)) ∧ subIn K (.ref C) (.type Bi) = some true
  body : ∃ (p0 p1 p2 p3 p4 p5 p6 p7 p8 p9 : Pos) (kk : Nat) (qual : Str) (params : Arguments) (scope : Scope) (dV kV doc pm : Value) (an : Option Addr) (cda cc : Addr) (ct oc : Value) (od : Option Addr) (osl : Array (Option Value)) (a1 a2 : Arg) (vs : Array Value) (file : Str) (tf : Tok) (ccl cl : Value) (cdd cld : Option Addr) (ccs csl : Array (Option Value)),
    K.lookup fI = some ⟨oc, od, .func (ksFn "__init__" qual params [.Expr (.Call (.Attribute (.Call (.Name "super" p0) [] [] p1) "__init__" p2) [.Constant (.str msg) kk p3] [] p4) p5, .Assign [.Attribute (.Name slf p6) fld p7] (.Name arg p8) p9] scope dV kV doc pm an (.ref cda) ct cc), osl⟩ ∧
    codeIn K (.ref cda) qual = true ∧ (params.posonlyargs ++ params.args).head? = some a1 ∧ a1.arg = slf ∧ K.lookup cda = some ⟨ccl, cdd, .fields vs, ccs⟩ ∧ vs[2]? = some (.str file tf) ∧ ((p.main.file : Str) == file) = true ∧
    K.lookup cc = some ⟨cl, cld, .cell (some (.ref C)), csl⟩ ∧ (∀ us : List Value, us.length = 2 → bindArgs (ksFn "__init__" qual params [.Expr (.Call (.Attribute (.Call (.Name "super" p0) [] [] p1) "__init__" p2) [.Constant (.str msg) kk p3] [] p4) p5, .Assign [.Attribute (.Name slf p6) fld p7] (.Name arg p8) p9] scope dV kV doc pm an (.ref cda) ct cc) ⟨us, []⟩ = pure ([slf, arg].zip us)) ∧
    scope.kind = .function ∧ scope.isCoroutine = false ∧ scope.isGenerator = false ∧ (∀ x ∈ scope.names, x.2 ≠ .cell) ∧ scope.names.lookup ("super" : Str) = some .globalImplicit ∧ scope.names.lookup ("__class__" : Str) = some .free ∧ scope.names.lookup slf = some .local ∧ scope.names.lookup arg = some .local ∧
    (∃ pl : Env → Sem Bool, ∀ env : Env, eval (.Call (.Attribute (.Call (.Name "super" p0) [] [] p1) "__init__" p2) [.Constant (.str msg) kk p3] [] p4) env = (do
      let ov ← attributeBase (.Call (.Name "super" p0) [] [] p1) "__init__" env (eval (.Call (.Name "super" p0) [] [] p1) env)
      standAt p2.atName
      let (f, first) ← holding [ov] (getMethod ov "__init__" (pl env))
      callWith p4 f first (backTo p4 (starEach [.Constant (.str msg) kk p3] env)) [])) ∧
    (∀ env : Env, swapsWith (.Call (.Attribute (.Call (.Name "super" p0) [] [] p1) "__init__" p2) [.Constant (.str msg) kk p3] [] p4) none p5.line env = pure false) ∧ (∀ env : Env, swapsWith (.Name arg p8) (some (.Attribute (.Name slf p6) fld p7)) p9.line env = pure false)
  ne : arg ≠ slf
  da : (arg == ("__debug__" : Str)) = false
  ds : (slf == ("__debug__" : Str)) = false
  top : (p.main.scope.names.lookup ("super" : Str)).isSome = false
  noF : findIn K (.ref C) fld = some none
  sa : findIn K (.ref C) "__setattr__" = some (some (.builtin "object.__setattr__"))
  iC : findIn K (.ref C) "__init__" = some (some (.ref fI))
  tI : typeIn K (.ref fI) = some (.type "function")
  opq : nsIn K cStatics "thirdparty.any" = some none
  exC : subIn K (.ref C) (.type "BaseException") = some true
  tyC : typeIn K (.ref C) = some (.type "type")
  kC : keepIn K (.ref C) = true
  mroC : mroIn K C (.ref C) = some true
section
variable {prog : Program} {w : World} {A : Around} {R : Result → Shared → Prop} {hp : Heap} {g : Array GenState} {d : Drawn} {t : Nat} {os : OsState} {K : Frag} {C fI e t0 : Addr} {fld slf arg msg : Str} {u : Value} {mg mb : Str → Option Value}
theorem x_init (T : XCls K prog C fI fld slf arg msg) (X : K.In hp) (lim : hp.NoLimit) (room : A.depth < recursionLimit) (glob : hp.Ns mainGlobals mg) (mgs : mg "super" = none) (blt : hp.Ns builtinsNs mb) (mbs : mb "super" = some (.type "super"))
    (he : hp.get? e = some (HandSPX.excO C t0)) (heK : K.lookup e = none)
    (fin : ∀ h' t1 tk dx, (∀ b o, b ≠ e → hp.get? b = some o → h'.get? b = some o) → hp.objs.size ≤ dx → dx ≠ e → h'.get? e = some { cls := .ref C, dict := some dx, data := .fields #[.ref t1, .none, .none, .none, .bool false, .none] } → h'.Ns1 dx (fun y => if y = fld then some u else none) → R (.ok (.ret .none)) ⟨h', g, d, tk, os⟩) :
    codeAny (model prog w) A (.call (.ref fI) ⟨[.ref e, u], []⟩) R ⟨hp, g, d, t, os⟩ := by
  obtain ⟨nm, q, N, bs, bm, sn, sub, ab, col, dd, k0, k1, k2, k3, k5, B, newId, Bi, i, hC, FN, FI, pass, hob, along, subB⟩ := T.ex
  obtain ⟨p0, p1, p2, p3, p4, p5, p6, p7, p8, p9, kk, qual, params, scope, dV, kV, doc, pm, an, cda, cc, ct, oc, od, osl, a1, a2, vs, file, tf, ccl, cl, cdd, cld, ccs, csl, lk, code, ha1, hself, lkc, hvs, hfile, lcell, bind, sk, sco, sgen, snc, s1, s2, s3, s4, ⟨pl, hev⟩, sw1, sw2⟩ := T.body
  have hcl : clsIn K C = some { name := nm, bases := bs, mro := .ref C :: bm, ns := N, qualname := q, hasDict := true, slotNames := sn, subclasses := sub, abstract := ab, collection := col, hasDel := false } := by unfold clsIn; rw [hC] <;> rfl
  refine ks_codeAny_call_defAt (binds := [(slf, .ref e), (arg, u)]) room (X _ _ lk) rfl lim (codeRec_of X code) rfl (BindsTo.of_eq (bind [.ref e, u] rfl)) snc (fun y hy => ?_) (fun h0 hns kp => ?_) sco sgen sk
  · rcases List.mem_cons.mp hy with rfl | hy
    · exact s3
    · rw [List.mem_singleton.mp hy]; exact s4
  have X0 : K.In h0 := X.keeps kp
  have hls : (([(slf, Value.ref e), (arg, u)] : List (Str × Value)).reverse.lookup slf) = some (.ref e) := by
    show List.lookup slf [(arg, u), (slf, Value.ref e)] = _
    rw [List.lookup_cons, show (slf == arg) = false from beq_false_of_ne (Ne.symm T.ne), List.lookup_cons, beq_self_eq_true]
  have hla : (([(slf, Value.ref e), (arg, u)] : List (Str × Value)).reverse.lookup arg) = some u := by
    show List.lookup arg [(arg, u), (slf, Value.ref e)] = _
    rw [List.lookup_cons, beq_self_eq_true]
  have he0 := kp _ _ he
  obtain ⟨oD, hD1, hD2⟩ : ∃ oD, h0.get? C = some oD ∧ oD.data = .cls { name := nm, bases := bs, mro := .ref C :: bm, ns := N, qualname := q, hasDict := true, slotNames := sn, subclasses := sub, abstract := ab, collection := col, hasDel := false } := ⟨_, X0 _ _ hC, rfl⟩
  have env0 : callEnv (ksFn "__init__" qual params [.Expr (.Call (.Attribute (.Call (.Name "super" p0) [] [] p1) "__init__" p2) [.Constant (.str msg) kk p3] [] p4) p5, .Assign [.Attribute (.Name slf p6) fld p7] (.Name arg p8) p9] scope dV kV doc pm an (.ref cda) ct cc) hp.objs.size fI = ksEnv qual scope hp.objs.size fI (.ref cda) cc := rfl
  show wpAt _ (A.deeper (callEnv (ksFn "__init__" qual params [.Expr (.Call (.Attribute (.Call (.Name "super" p0) [] [] p1) "__init__" p2) [.Constant (.str msg) kk p3] [] p4) p5, .Assign [.Attribute (.Name slf p6) fld p7] (.Name arg p8) p9] scope dV kV doc pm an (.ref cda) ct cc) hp.objs.size fI)) _ _ _ _ _
  rw [env0]
  refine ks_wpAt_execs_cons (ks_wpAt_Expr_any (ks_wpAt_MethodCall (pl := pl _) (ks_wpAt_super_base (env := ksEnv qual scope hp.objs.size fI (.ref cda) cc) s1 s2 (by decide) rfl (X0 _ _ lk) rfl ha1 rfl (X0 _ _ lkc) rfl hvs hfile T.top ?_) (hev _)) (by simp [interactive, sk]) (sw1 _))
  rw [hself]
  refine ks_loadName_global sk s1 (loadGlobal_builtin (glob.keeps kp) mgs (blt.keeps kp) mbs ⟨rfl, ?_⟩)
  refine wpAny_loadName_free sk s2 rfl ⟨_, X0 _ _ lcell, rfl⟩ ?_
  refine wpAny_loadName_local sk s3 hns hls (ks_wpAny_isType_cls hD1 hD2 ⟨rfl, ?_⟩)
  refine ks_wpAny_call_super hD1 hD2 he0 rfl (fun _ z => nomatch z) (looks_mroIn X0 T.mroC) fun h1 hso k1 => ?_
  have X1 : K.In h1 := X0.keeps k1
  have he1 := k1 _ _ he0
  have neC : e ≠ C := fun z => by rw [z, hC] at heK; cases heK
  have I1 : InstAt h1 e (HandSPX.excO C t0) C none := ⟨he1, rfl, rfl, trivial⟩
  have isB : Looks (model prog w) h1 (isInstance (.ref e) (.type Bi)) true := I1.type.andThen (looks_subIn X1 subB)
  refine kxs_getMethod FI.kx hso (looks_opaque X1 T.opq) (l₀ := .ref C :: bm) (fun A Q E s k q => wpAny_bind ((looks_clsIn X1 hcl) A _ E s k (wpAny_pure q))) (ESX.drop_own C bm) X1 along isB neC (by decide) ?_
  have k2 : ∀ b o, h1.get? b = some o → (h1.push (kxs_mw i e)).get? b = some o := fun b o z => Heap.get?_push_of_some _ z
  have hu2 : (h1.push (kxs_mw i e)).get? h1.objs.size = some (kxs_mw i e) := Heap.get?_push_at rfl rfl
  have X2 := X1.keeps k2
  refine kxs_callWith (i := i) (x := e) rfl (evalArgs_plain (spliced_cons (Constant_str (k := kk) (pos := p3) (spliced_nil ⟨hu2, ?_⟩))))
  refine x_bound FI (X2 _ _ hC) (k2 _ _ he1) hu2 (by show 1 ≤ sizeLine; decide) fun h3 t1 k3 he3 => ?_
  have X3 : K.In h3 := fun a o z => k3 a o (fun y => by rw [y, heK] at z; cases z) (X2 a o z)
  obtain ⟨oL, es, ep, hL, rL⟩ := hns
  have hLs : h0.get? hp.objs.size = some oL := hL
  have neL : hp.objs.size ≠ e := Nat.ne_of_gt (Heap.lt_size he)
  have hL3 := k3 _ _ neL (k2 _ _ (k1 _ _ hLs))
  have hns3 : h3.Ns hp.objs.size (fun x => [(slf, Value.ref e), (arg, u)].reverse.lookup x) := ⟨oL, es, ep, hL3, rL⟩
  refine ks_wpAt_execs_cons (ks_wpAt_Assign_Attr (wpAt_of_wpAny (wpAny_Name (wpAny_loadName_local sk s4 hns3 hla (wpAny_Name (wpAny_loadName_local sk s3 hns3 hls ?_) T.ds)) T.da)) (sw2 _))
  have I3 : InstAt h3 e (HandSPX.excO C t1) C none := ⟨he3, rfl, rfl, trivial⟩
  refine set_plain X3 I3 T.sa (x_osa X3 he3 hcl pass hob rfl T.noF fun h4 tk dx k4 hdx ndx he4 hn4 => ?_)
  refine wpAt_of_wpAny (wpAny_execs_nil (fin h4 t1 tk dx (fun b o nb z => k4 b o nb (k3 b o nb (k2 b o (k1 b o (kp b o z))))) (Nat.le_trans (Nat.le_of_lt (Heap.lt_size hL3)) hdx) ndx he4 hn4))
end
end EOX
end PySem
end
section
set_option Elab.async false
set_option linter.all false
set_option maxRecDepth 100000
set_option maxHeartbeats 2000000
/-! C(e) makes an exception to raise -/
namespace EO
open PySem PySem.Spec PyProof.Rows L2
section
variable {X : Cx} {x fld slf arg msg : Str} {p pos : Pos} {e : Expr} {te : TE} {C fI : Addr}
def tXc (C : Addr) (fld : Str) (te : TE) : L2.St → Hp → XK → Prop := fun σ H Q => te σ H fun v H1 => ∀ d, H1 d = none → Q (.ref C) (some d) (upd H1 d (.xd [(fld, v)]))
theorem pmk_x (T : PySem.EOX.XCls X.K X.prog C fI fld slf arg msg) (hr : Room 1 X.A) (hg : Gl X x) (hm : X.mg x = some (.ref C)) (hs : X.mg "super" = none) (he : PE X e te)
    (hdb : (x == ("__debug__" : Str)) = false := by decide) (hst : starEach [e] X.env = (false, eval e X.env) :: starEach [] X.env := by rfl) (hpl : (backTo pos (starEach [] X.env)).any (·.1) = false := by rfl) : PMk X (.Call (.Name x p) [e] [] pos) (tXc C fld te) := by
  intro pins s σ H Q I h
  obtain ⟨nm, q, N, bs, bm, sn, sub, ab, col, dd, k0, k1, k2, k3, k5, B, newId, Bi, i, hC, FN, FI, pass, hob, along, subB⟩ := T.ex
  refine wpAny_Call_Name_kw (ld_glob I hg hm ?_ hdb)
  refine PySem.W.callWith_K (h₀ := X.base) I.ok.mod.kin T.kC (L2.thn ((pa_cons he pa_nil hst).run pos pins s σ H (fun vs H1 => match vs with
    | [v] => ∀ d, H1 d = none → Q (.ref C) (some d) (upd H1 d (.xd [(fld, v)]))
    | _ => False) I ?_) fun us s1 hh => ?_) hst hpl
  · exact h
  obtain ⟨vs, H1, I1, r1, q0⟩ := hh
  obtain ⟨v, rfl, q1⟩ : ∃ v, vs = [v] ∧ ∀ d, H1 d = none → Q (.ref C) (some d) (upd H1 d (.xd [(fld, v)])) := by
    match vs, q0 with
    | [v], q0 => exact ⟨v, rfl, q0⟩
  refine ⟨I1.kIn, ?_⟩
  cases r1 with
  | @cons _ u _ ur ra rr =>
    cases rr
    show wpAny _ _ (call (.ref C) [u]) _ _ _
    obtain ⟨hp, g, dr, tk, os⟩ := s1
    have kk : ∀ b o, hp.get? b = some o → ((hp.push (PySem.W.kdv_tup [u])).push (PySem.HandSPX.excO C hp.objs.size)).get? b = some o := fun b o z => Heap.get?_push_of_some _ (Heap.get?_push_of_some _ z)
    have hget : ((hp.push (PySem.W.kdv_tup [u])).push (PySem.HandSPX.excO C hp.objs.size)).get? (hp.objs.size + 1) = some (PySem.HandSPX.excO C hp.objs.size) := by heap_get
    obtain ⟨mb, b1, b2⟩ := I1.mod.blt
    refine wpAny_call (PySem.EOX.x_call FN (I1.kIn _ _ hC) (PySem.W.looks_findIn I1.kIn T.iC) (fun self => PySem.W.bind_fn I1.kIn self T.tI) (by show 1 ≤ sizeLine; decide) ?_)
    refine PySem.EOX.x_init T (I1.kIn.keeps kk) ((I1.mod.nolimit.keeps I1.bk).keeps kk) (hr.make C [u] []).depth ((I1.mod.glob.keeps I1.bk).keeps kk) hs ((b1.keeps I1.bk).keeps kk) ((b2 "super" (by decide)).trans (by decide +kernel)) hget ?_ ?_
    · cases z : X.K.lookup (hp.objs.size + 1) with
      | none => rfl
      | some o =>
        have y := Heap.lt_size (I1.kIn _ _ z)
        exact absurd y (by show ¬ (hp.objs.size + 1 < hp.objs.size); omega)
    · intro h' t1 tk' dx k hdx ndx he' hn
      refine ⟨rfl, ?_⟩
      have hdx0 : hp.objs.size ≤ dx := Nat.le_trans (by rw [Heap.size_push, Heap.size_push]; omega) hdx
      have hd1 : H1 dx = none := I1.hok.fresh hdx0
      obtain ⟨G, g1, g2⟩ := restrict h' fun b => decide (b ≠ hp.objs.size + 1)
      have gk : ∀ b, b ≠ hp.objs.size + 1 → G.get? b = h'.get? b := fun b hb => g1 b (decide_eq_true hb)
      have ge : G.get? (hp.objs.size + 1) = none := g2 _ (by simp)
      have old : ∀ b o, hp.get? b = some o → G.get? b = some o := fun b o z => by
        have nb : b ≠ hp.objs.size + 1 := Nat.ne_of_lt (Nat.lt_succ_of_lt (Heap.lt_size z))
        rw [gk b nb]
        exact k b o nb (kk b o z)
      have new : ObjOk X.prog X.w (upd H1 dx (.xd [(fld, v)])) G dx (.xd [(fld, v)]) := ⟨_, hn.at fun o y => (gk dx ndx).trans y, relO_put (fs := []) ra fun g => True.intro⟩
      have J : Inv X pins σ (upd H1 dx (.xd [(fld, v)])) ⟨G, g, dr, tk', os⟩ := I1.laid (t' := tk') old hdx0 new
      refine ⟨hp.objs.size + 1, _, _, ⟨G, g, dr, tk', os⟩, _, .ref C, some dx, rfl, J, fun b o z => ?_, ge, he', ⟨rfl, rfl⟩, rfl, rfl, ?_, rfl, I1.bare, raises_own T.exC T.tyC, q1 dx hd1⟩
      · by_cases hb : b = hp.objs.size + 1
        · rw [hb, ge] at z; cases z
        · exact (gk b hb).symm.trans z
      · rw [upd_ne (Ne.symm ndx)]
        exact I1.hok.fresh (Nat.le_succ _)
end
end EO
end
section
set_option Elab.async false
set_option linter.all false
set_option maxRecDepth 100000
set_option maxHeartbeats 1000000
/-! strangers, what a row does -/
namespace EO
open PySem PySem.Spec PyProof.Rows L2
/-! defs that may raise -/
structure FnE (P : Program) (w : World) (K : PySem.W.Frag) (mg : Str → Option Value) (base : Heap) (k : Nat) (x : Str) (sp : Sp) : Prop where
  ex : ∃ (f : Addr) (fd : FuncData) (ps : List Str), FnOk P w K mg base (L2.CX P w) k f fd ps sp ∧ mg x = some (.ref f) ∧ PySem.W.keepIn K (.ref f) = true ∧ Binds K fd ps []
section
variable {P : Program} {w : World} {K : PySem.W.Frag} {mg : Str → Option Value} {base : Heap}
theorem FnE.mono {j k : Nat} {x : Str} {sp : Sp} (F : FnE P w K mg base j x sp) (h : j ≤ k) : FnE P w K mg base k x sp := by
  obtain ⟨f, fd, ps, a, b⟩ := F.ex
  exact ⟨f, fd, ps, a.mono h, b⟩
theorem fn_byX {x : Str} {st : Stmt} {N ps : List Str} {k : Nat} {sp : Sp} (D : Dfn K mg x st) (S : FnScope N ps (defScope st))
    (hb : ∀ (kV doc pm : Value) (an : Option Addr) (cdv ct : Value) (us : List Value), us.length = ps.length → bindArgs (PySem.W.fnOf x x (defArgs st) (defBody st) (defScope st) .none kV doc pm an cdv ct) ⟨us, []⟩ = pure (ps.zip us))
    (len : ∀ vs H Q E, sp vs H Q E → vs.length = ps.length)
    (body : ∀ (f : Addr) (cdv : Value) (A : Around) (outer : List Env) (s : Shared) (H : Hp) (vs : List V) (Q : VK) (E : XK), Room k (A.deeper (envOfC x (defScope st) s.heap.objs.size f cdv)) → sp vs H Q E →
      ∃ t, PSs (cxOf (L2.CX P w) P w K mg base N x (defScope st) f cdv A outer s H E) (defBody st) t ∧ t { nx := fun _ H' => Q .non H', rt := Q } (start N vs) H) : FnE P w K mg base (k + 1) x sp := by
  obtain ⟨f, fd, F, m⟩ := D.ex
  exact ⟨f, fd, ps, F.okX S len fun cdv A outer s H vs Q E hr hs => body f cdv A outer s H vs Q E hr hs, m, F.kp, F.binds hb⟩
end
section
variable {X : Cx} {k j : Nat} {x : Str} {sp : Sp} {p pos : Pos} {e : Expr} {es : List Expr} {t : TA} {W : WX}
/-- a call of such a def; W is what is wished of an exception here -/
theorem pe_fE (c : FnE X.prog X.w X.K X.mg X.base k x sp) (hr : Room j X.A) (hk : k ≤ j) (hg : Gl X x) (tk : Takes X W) (ha : PA X (e :: es) t)
    (hdb : (x == ("__debug__" : Str)) = false := by decide) (he : starEach (e :: es) X.env = (false, eval e X.env) :: starEach es X.env := by rfl) (hpl : (backTo pos (starEach es X.env)).any (·.1) = false := by rfl) :
    PE X (.Call (.Name x p) (e :: es) [] pos) (tCall sp [] (fun cls d H => ∀ σ, W cls d σ H) t) := by
  obtain ⟨f, fd, ps, F, m, kp, b⟩ := c.ex
  exact pe_call F (hr.mono hk) hg m kp b .nil (passes_call tk fun cls d σ H h => h σ) ha hdb he hpl
end
/-! x not in a tuple of texts, x a text or a tuple -/
def rNotInTS (K : PySem.W.Frag) : R2 := fun x y H Q => ∃ p ts, y = .ref p ∧ SqT K H p (vss ts) ∧ ((∃ z, x = .str z ∧ Q (.bl (!decide (z ∈ ts))) H) ∨ ∃ a xs, x = .ref a ∧ SqT K H a xs ∧ Q (.bl true) H)
theorem vals_str : ∀ (ts : List Str) {its : List Value}, Vals (vss ts) its → ∀ w ∈ its, ∃ z t, w = .str z t
  | [], _, r, w, hw => by
    cases r
    cases hw
  | x :: ts, _, r, w, hw => by
    cases r with
    | cons a b =>
      rcases List.mem_cons.mp hw with rfl | hw
      · obtain ⟨t, e⟩ := a
        exact ⟨x, t, e⟩
      · exact vals_str ts b w hw
theorem op_notInTS {X : Cx} {k : Nat} (hr : Room k X.A) : OpR X (compareOp .NotIn) (rNotInTS X.K) := by
  intro pins s σ H x y v u Q I rx ry h
  obtain ⟨p, ts, rfl, hq, h⟩ := h
  rcases h with ⟨z, rfl, q⟩ | ⟨a, xs, rfl, hx, q⟩
  · refine op_notIn_seq pins s σ H _ _ v u Q I rx ry ⟨p, vss ts, rfl, .inr hq, rfl, flat_vss ts, ?_⟩
    rw [if_pos rfl, inV_str]
    exact q
  · cases ry
    cases rx
    obtain ⟨its, r, pl, hz⟩ := I.tuple hq
    obtain ⟨its2, r2, pl2, hz2⟩ := I.tuple hx
    have hu := hr.units
    have e0 : its.toArray.any (fun _ => false) = false := by simp
    refine SeqAt.notIn_tupleAt (fun _ => false) pl (fun w hw => ?_) ⟨.bl true, H, I, by rw [e0]; rfl, q⟩
    obtain ⟨z, t, rfl⟩ := vals_str ts r w (by simpa using hw)
    exact SeqAt.EqAt.str_tuple z t pl2 (by show X.A.units + 1 < cLine; omega)
/-! strangers -/
def strange (ns : List Str) : List Pt → Option Str
  | [] => none
  | .nm x :: r => if x ∈ ns then strange ns r else some x
  | .pw _ _ :: r => strange ns r
  | .od :: r => strange ns r
theorem strange_known {ns : List Str} : ∀ {r : List Str}, (∀ x ∈ r, x ∈ ns) → strange ns (r.map Pt.nm) = none
  | [], _ => rfl
  | x :: r, h => by
    show (if x ∈ ns then strange ns (r.map Pt.nm) else some x) = none
    rw [if_pos (h x (List.mem_cons_self ..))]
    exact strange_known fun y hy => h y (List.mem_cons_of_mem _ hy)
def vso : Option Str → V
  | none => .non
  | some z => .str z
def Tx (H : Hp) (u : V) (ns : List Str) : Prop := ∃ m, u = .ref m ∧ H m = some (.tup (vss ns))
theorem Tx.sm {H H' : Hp} {u : V} {ns : List Str} (h : Tx H u ns) (s : Same H H') : Tx H' u ns := let ⟨m, a, b⟩ := h; ⟨m, a, s _ _ b⟩
section
variable {P : Program} {w : World} {K : PySem.W.Frag} {mg : Str → Option Value} {base : Heap} {CM : Addr}
def spStr (J : Prop) : Sp := fun vs H Q _ => ∃ v u ps ns, vs = [v, u] ∧ RowR H v ps ∧ Tx H u ns ∧ (∀ p ∈ ps, isOd p = false) ∧ (∀ r k, Pt.pw r k ∈ ps → J ∧ ∀ x ∈ r, x ∈ ns) ∧ ∀ H', Same H H' → Q (vso (strange ns ps)) H'
abbrev sc_first_strangerN : List Str := ["row", "names", "part", "found"]
theorem sc_first_stranger : FnScope sc_first_strangerN ["row", "names"] (defScope (topS 26)) := ⟨rfl, rfl, rfl, by decide +kernel, rfl, by decide +kernel, by decide +kernel⟩
theorem ok_first_stranger (J : Prop) {k : Nat} (D : Dfn K mg "first_stranger" (topS 26)) (T : Txt K mg CM) (c_first_stranger : Fn P w K mg base k "first_stranger" (fun vs H Q E => J ∧ spStr False vs H Q E)) : Fn P w K mg base (k + 1) "first_stranger" (spStr J) := by
  refine fn_by D sc_first_stranger (fun _ _ _ _ _ _ us hl => match us, hl with | [_, _], _ => rfl) (fun vs H Q E h => ?_) (fun f cdv A outer s H vs Q E hr h => ?_)
  · obtain ⟨v, u, ps, ns, rfl, _⟩ := h
    rfl
  · obtain ⟨v, u, ps, ns, rfl, ⟨a, xs, rfl, ha, hal, hok, hlen⟩, ⟨m, rfl, hm⟩, hod, hpw, q⟩ := h
    refine ⟨_, (pss_cons (ps_for PassesOwn.never rfl (pi_tup (pv 0)) (pg_name (i := 2) sc_first_stranger.nd rfl (Or.inl rfl))
 (pss_cons (ps_set (i := 3) sc_first_stranger.nd rfl (Or.inl rfl) (pe_ifExp (pt_cmpR (op_notInTS hr) (pv 2) (pv 1) (by rfl)) (pv 2) pe_non))
 (pss_cons (ps_if (pt_val (pe_callB call_isi rfl T.isinstance PyProof.Rows.Boot.«isinstance» (pa_cons (pv 2) (pa_cons (pe_bltn (v := .ty "tuple") rfl T.tuple PyProof.Rows.Boot.«tuple» rfl) pa_nil))))
 (pss_one (ps_set (i := 3) sc_first_stranger.nd rfl (Or.inl rfl) (pe_f c_first_stranger hr (by first | decide | omega) rfl (pa_cons (pe_ix ix_tup (pv 2) pe_int (fun _ _ => rfl)) (pa_cons (pv 1) pa_nil)))))
 pss_nil)
 (pss_one (ps_if (pt_cmpR op_notN (pv 3) pe_non (nomark _))
 (pss_one (ps_ret (pv 3)))
 pss_nil)))))
 (pss_one (ps_ret pe_non))), ?_⟩
    refine ⟨.ref a, rfl, a, rfl, ⟨_, SqT.of ha⟩, for_it walk_tup (fun i σ H' => ∃ x y, σ = [some (.ref a), some (.ref m), x, y] ∧ Same H H' ∧ strange ns ps = strange ns (ps.drop i)) ⟨_, _, rfl, Same.refl H, rfl⟩ (fun i σ H' _ ⟨_, _, _, sm, _⟩ => SqT.of (sm _ _ ha)) ?_ ?_⟩
    · rintro i y σ H1 H2 hi ⟨x, y0, rfl, sm, hst⟩ ⟨rfl, hy⟩
      obtain ⟨p, hp, hyp⟩ := hal.at' hy
      have hmem := List.mem_of_getElem? hp
      have hdrop : ps.drop i = p :: ps.drop (i + 1) := by
        obtain ⟨h1, h2⟩ := List.getElem?_eq_some_iff.mp hp
        rw [← h2]
        exact List.drop_eq_getElem_cons h1
      rw [hdrop] at hst
      have hm1 := sm _ _ hm
      cases p with
      | nm z =>
        cases hyp
        refine ⟨.str z, rfl, .ref m, rfl, m, ns, rfl, SqT.of hm1, .inl ⟨z, rfl, _, rfl, ite2 (fun e0 => ?_) (fun e0 => ?_)⟩⟩
        · have hz : z ∉ ns := by simpa using e0
          refine ⟨.str z, rfl, .str z, rfl, .str z, .ty "tuple", .type "str", .type "tuple", false, rfl, .ty _, (Rp.str (CM := CM) (H := H2) z).ty rfl, kit_tup (.str z) rfl, false, rfl, ?_⟩
          refine ⟨.str z, rfl, rfl, true, rfl, .str z, rfl, ?_⟩
          have e : strange ns ps = some z := by
            rw [hst]
            show (if z ∈ ns then strange ns (ps.drop (i + 1)) else some z) = _
            rw [if_neg hz]
          have := q _ sm
          rw [e] at this
          exact this
        · have hz : z ∈ ns := by simpa using e0
          refine ⟨.str z, rfl, .str z, .ty "tuple", .type "str", .type "tuple", false, rfl, .ty _, (Rp.str (CM := CM) (H := H2) z).ty rfl, kit_tup (.str z) rfl, false, rfl, ?_⟩
          refine ⟨.non, rfl, rfl, false, rfl, _, _, rfl, sm, ?_⟩
          rw [hst]
          show (if z ∈ ns then strange ns (ps.drop (i + 1)) else some z) = _
          rw [if_pos hz]
      | pw r k2 =>
        obtain ⟨a2, y2, rfl, h2, hy2⟩ := hyp
        have h21 := sm _ _ h2
        obtain ⟨hJ, hr2⟩ := hpw r k2 hmem
        have ok2 := hok _ hmem
        refine ⟨.ref a2, rfl, .ref m, rfl, m, ns, rfl, SqT.of hm1, .inr ⟨a2, _, rfl, SqT.of h21, true, rfl, ?_⟩⟩
        refine ⟨.ref a2, rfl, .ref a2, rfl, .ref a2, .ty "tuple", .type "tuple", .type "tuple", true, rfl, .ty _, .base (.tup h21), kit_tup (K := K) (.tuple []) rfl, true, rfl, ?_⟩
        have e : strange ns (r.map Pt.nm) = none := strange_known hr2
        refine ⟨.ref a2, rfl, a2, _, 0, y2, rfl, rfl, SqT.of h21, rfl, .ref m, rfl, hJ, y2, .ref m, r.map Pt.nm, ns, rfl, (hy2.sm sm).row ok2.1 ok2.2.2, ⟨m, rfl, hm1⟩, ?_, ?_, fun H3 sm3 => ?_⟩
        · intro p hp
          obtain ⟨_, _, rfl⟩ := List.mem_map.mp hp
          rfl
        · intro r' k' hp
          obtain ⟨_, _, h⟩ := List.mem_map.mp hp
          cases h
        · rw [e]
          exact ⟨.non, rfl, rfl, false, rfl, _, _, rfl, sm.trans sm3, hst⟩
      | od => exact absurd (hod _ hmem) (by decide)
    · rintro σ H1 ⟨x, y, rfl, sm, hst⟩
      rw [hal.1, List.drop_length] at hst
      have := q _ sm
      rw [hst] at this
      exact this
end
end EO
end
section
set_option Elab.async false
set_option linter.all false
set_option maxRecDepth 100000
set_option maxHeartbeats 1000000
/-! what a row does -/
namespace EO
open PySem PySem.Spec PyProof.Rows L2
/-- the exceptions -/
structure TxE (K : PySem.W.Frag) (P : Program) (mg : Str → Option Value) (CN CS : Addr) : Prop where
  xN : ∃ f, PySem.EOX.XCls K P CN f "name" "self" "name" "no such name"
  xS : ∃ f, PySem.EOX.XCls K P CS f "word" "self" "word" "invalid size"
  mN : mg "NoName" = some (.ref CN)
  mS : mg "InvalidSize" = some (.ref CS)
  sup : mg "super" = none
  eN : PySem.W.exmOne K (.ref CN) (.ref CN) = some true
  eS : PySem.W.exmOne K (.ref CS) (.ref CS) = some true
section
variable {P : Program} {w : World} {K : PySem.W.Frag} {mg : Str → Option Value} {base : Heap} {CM CN CS : Addr}
def spNeed (CN : Addr) : Sp := fun vs H Q E => ∃ v u ps ns, vs = [v, u] ∧ RowR H v ps ∧ Tx H u ns ∧ (∀ p ∈ ps, isOd p = false) ∧ (∀ r k, Pt.pw r k ∈ ps → ∀ x ∈ r, x ∈ ns) ∧
  (strange ns ps = none → ∀ H', Same H H' → Q .non H') ∧ ∀ z, strange ns ps = some z → ∀ H' d, Same H H' → H' d = none → E (.ref CN) (some d) (upd H' d (.xd [("name", .str z)]))
abbrev sc_need_namesN : List Str := ["row", "names", "stranger"]
theorem sc_need_names : FnScope sc_need_namesN ["row", "names"] (defScope (topS 27)) := ⟨rfl, rfl, rfl, by decide +kernel, rfl, by decide +kernel, by decide +kernel⟩
theorem ok_need_names {k : Nat} (D : Dfn K mg "need_names" (topS 27)) (T : Txt K mg CM) (TE : TxE K P mg CN CS) (hk : 1 ≤ k) (c_first_stranger : Fn P w K mg base k "first_stranger" (spStr True)) : FnE P w K mg base (k + 1) "need_names" (spNeed CN) := by
  obtain ⟨fN, xN⟩ := TE.xN
  refine fn_byX D sc_need_names (fun _ _ _ _ _ _ us hl => match us, hl with | [_, _], _ => rfl) (fun vs H Q E h => ?_) (fun f cdv A outer s H vs Q E hr h => ?_)
  · obtain ⟨v, u, ps, ns, rfl, _⟩ := h
    rfl
  · obtain ⟨v, u, ps, ns, rfl, hv, hu, hod, hpw, q1, q2⟩ := h
    refine ⟨_, (pss_cons (ps_set (i := 2) sc_need_names.nd rfl (Or.inl rfl) (pe_f c_first_stranger hr (by first | decide | omega) rfl (pa_cons (pv 0) (pa_cons (pv 1) pa_nil))))
 (pss_one (ps_if (pt_cmpR op_notN (pv 2) pe_non (nomark _))
 (pss_one (ps_raise rfl (takes_of rfl rfl rfl rfl) (pmk_x xN (hr.mono (by first | decide | omega)) rfl TE.mN TE.sup (pv 2))))
 pss_nil))), ?_⟩
    refine ⟨v, rfl, u, rfl, v, u, ps, ns, rfl, hv, hu, hod, fun r k h => ⟨True.intro, hpw r k h⟩, fun H1 sm => ?_⟩
    cases e : strange ns ps with
    | none => exact ⟨.non, rfl, rfl, false, rfl, q1 e _ sm⟩
    | some z => exact ⟨.str z, rfl, rfl, true, rfl, .str z, rfl, fun d hd => q2 z e _ d sm hd⟩
/-! made_by -/
def nmE (ds : List (Str × Eff)) (x : Str) : Eff := (ds.lookup x).getD []
def nE (n : Nat) (ds : List (Str × Eff)) (r : List Str) : Eff := r.foldl (fun f x => thn f (nmE ds x)) (idE n)
def ptE (n : Nat) (ds : List (Str × Eff)) : Pt → Eff
  | .nm x => nmE ds x
  | .pw r k => pw n (nE n ds r) k
  | .od => idE n
def rowE (n : Nat) (ds : List (Str × Eff)) (ps : List Pt) : Eff := ps.foldl (fun f p => thn f (ptE n ds p)) (idE n)
theorem rowE_nm (n : Nat) (ds : List (Str × Eff)) (r : List Str) : rowE n ds (r.map Pt.nm) = nE n ds r := by
  unfold rowE nE
  rw [List.foldl_map]
  rfl
theorem rowE_snoc (n : Nat) (ds : List (Str × Eff)) (ps : List Pt) (p : Pt) : rowE n ds (ps ++ [p]) = thn (rowE n ds ps) (ptE n ds p) := by
  unfold rowE
  rw [List.foldl_append]
  rfl
/-- known names -/
def Kn (ds : List (Str × Eff)) : Pt → Prop
  | .nm x => (ds.lookup x).isSome = true
  | .pw r _ => ∀ x ∈ r, (ds.lookup x).isSome = true
  | .od => False
def DsOk (n : Nat) (ds : List (Str × Eff)) : Prop := ∀ x e, ds.lookup x = some e → Ok n e
theorem nmE_ok {n : Nat} {ds : List (Str × Eff)} (o : DsOk n ds) {x : Str} (h : (ds.lookup x).isSome = true) : Ok n (nmE ds x) := by
  obtain ⟨e, he⟩ := Option.isSome_iff_exists.mp h
  unfold nmE
  rw [he]
  exact o x e he
theorem foldl_ok {α : Type} {n : Nat} {f : α → Eff} : ∀ (l : List α) (e : Eff), Ok n e → (∀ x ∈ l, Ok n (f x)) → Ok n (l.foldl (fun g x => thn g (f x)) e)
  | [], _, h, _ => h
  | x :: l, e, h, hf => foldl_ok l _ (ok_thn h (hf x (List.mem_cons_self ..))) fun y hy => hf y (List.mem_cons_of_mem _ hy)
theorem nE_ok {n : Nat} {ds : List (Str × Eff)} (o : DsOk n ds) {r : List Str} (h : ∀ x ∈ r, (ds.lookup x).isSome = true) : Ok n (nE n ds r) := foldl_ok r _ (ok_id n) fun x hx => nmE_ok o (h x hx)
theorem ptE_ok {n : Nat} {ds : List (Str × Eff)} (o : DsOk n ds) : ∀ {p : Pt}, Kn ds p → Ok n (ptE n ds p)
  | .nm _, h => nmE_ok o h
  | .pw _ k, h => ok_pw (nE_ok o h) k
  | .od, _ => ok_id n
theorem rowE_ok {n : Nat} {ds : List (Str × Eff)} (o : DsOk n ds) {ps : List Pt} (h : ∀ p ∈ ps, Kn ds p) : Ok n (rowE n ds ps) := foldl_ok ps _ (ok_id n) fun p hp => ptE_ok o (h p hp)
/-- the dict of the deeds -/
def Dct (H : Hp) (dd : Addr) (ds : List (Str × Eff)) : Prop := ∃ kvs, H dd = some (.dK kvs) ∧ ∀ x e, ds.lookup x = some e → ∃ v, valV kvs (.inr x) = some v ∧ Ef H v e
theorem Dct.sm {H H' : Hp} {dd : Addr} {ds : List (Str × Eff)} (h : Dct H dd ds) (s : Same H H') : Dct H' dd ds := let ⟨kvs, a, b⟩ := h; ⟨kvs, s _ _ a, fun x e he => let ⟨v, c, d⟩ := b x e he; ⟨v, c, d.sm s⟩⟩
def spMade (mg : Str → Option Value) (J : Prop) : Sp := fun vs H Q _ => ∃ n ds v dd nv ft ps, vs = [v, .ref dd, nv, .ref ft] ∧ mg "effect_then" = some (.ref ft) ∧ RowR H v ps ∧ DsOk n ds ∧ (∀ p ∈ ps, Kn ds p) ∧ ((∃ p ∈ ps, isPw p) → J) ∧ Dct H dd ds ∧ Ef H nv (idE n) ∧ n ≤ 1000 ∧
  ∀ H' r, Same H H' → Ef H' r (rowE n ds ps) → Q r H'
abbrev sc_made_byN : List Str := ["row", "deeds", "nothing", "then", "found", "part", "inner"]
theorem sc_made_by : FnScope sc_made_byN ["row", "deeds", "nothing", "then"] (defScope (topS 33)) := ⟨rfl, rfl, rfl, by decide +kernel, rfl, by decide +kernel, by decide +kernel⟩
theorem ok_made_by (J : Prop) {k : Nat} (hk : 2 ≤ k) (D : Dfn K mg "made_by" (topS 33)) (T : Txt K mg CM) (c_then : Fn P w K mg base 1 "effect_then" spThen) (c_power_by : Fn P w K mg base 2 "power_by" (spPow mg)) (c_made_by : Fn P w K mg base k "made_by" (fun vs H Q E => J ∧ spMade mg False vs H Q E)) :
    Fn P w K mg base (k + 1) "made_by" (spMade mg J) := by
  refine fn_by D sc_made_by (fun _ _ _ _ _ _ us hl => match us, hl with | [_, _, _, _], _ => rfl) (fun vs H Q E h => ?_) (fun f cdv A outer s H vs Q E hr h => ?_)
  · obtain ⟨n, ds, v, dd, nv, ft, ps, rfl, _⟩ := h
    rfl
  · obtain ⟨n, ds, v, dd, nv, ft, ps, rfl, hm, ⟨a, xs, rfl, ha, hal, hok, hlen⟩, hds, hkn, hpw, hd, hnv, hn, q⟩ := h
    obtain ⟨ff, fdt, pst, F_then, mm, k_then, b_then⟩ := c_then.ex
    rw [hm] at mm
    cases mm
    refine ⟨_, (pss_cons (ps_set (i := 4) sc_made_by.nd rfl (Or.inl rfl) (pv 2))
 (pss_cons (ps_for PassesOwn.never rfl (pi_tup (pv 0)) (pg_name (i := 5) sc_made_by.nd rfl (Or.inl rfl))
 (pss_one (ps_if (pt_val (pe_callB call_isi rfl T.isinstance PyProof.Rows.Boot.«isinstance» (pa_cons (pv 5) (pa_cons (pe_bltn (v := .ty "tuple") rfl T.tuple PyProof.Rows.Boot.«tuple» rfl) pa_nil))))
 (pss_cons (ps_set (i := 6) sc_made_by.nd rfl (Or.inl rfl) (pe_f c_made_by hr (by first | decide | omega) rfl (pa_cons (pe_ix ix_tup (pv 5) pe_int (fun _ _ => rfl)) (pa_cons (pv 1) (pa_cons (pv 2) (pa_cons (pv 3) pa_nil))))))
 (pss_one (ps_set (i := 4) sc_made_by.nd rfl (Or.inl rfl) (pe_callL (i := 3) F_then (hr.mono (by first | decide | omega)) rfl (Or.inl rfl) k_then b_then .nil pass0 (pa_cons (pv 4) (pa_cons (pe_f c_power_by hr (by first | decide | omega) rfl (pa_cons (pv 6) (pa_cons (pe_ix ix_tup (pv 5) pe_int (fun _ _ => rfl)) (pa_cons (pv 2) (pa_cons (pv 3) pa_nil))))) pa_nil))))))
 (pss_one (ps_set (i := 4) sc_made_by.nd rfl (Or.inl rfl) (pe_callL (i := 3) F_then (hr.mono (by first | decide | omega)) rfl (Or.inl rfl) k_then b_then .nil pass0 (pa_cons (pv 4) (pa_cons (pe_dget (hu_of hr) (pv 1) (pv 5) (fun _ _ => rfl)) pa_nil))))))))
 (pss_one (ps_ret (pv 4))))), ?_⟩
    refine ⟨nv, rfl, .ref a, rfl, a, rfl, ⟨_, SqT.of ha⟩, for_it walk_tup (fun i σ H' => ∃ gv x y, σ = [some (.ref a), some (.ref dd), some nv, some (.ref ft), some gv, x, y] ∧ Same H H' ∧ Ef H' gv (rowE n ds (ps.take i))) ⟨nv, _, _, rfl, Same.refl H, hnv⟩ (fun i σ H' _ ⟨_, _, _, _, sm, _⟩ => SqT.of (sm _ _ ha)) ?_ ?_⟩
    · rintro i y σ H1 H2 hi ⟨gv, x5, x6, rfl, sm, hg⟩ ⟨rfl, hy⟩
      obtain ⟨p, hp, hyp⟩ := hal.at' hy
      have hmem := List.mem_of_getElem? hp
      have okg : Ok n (rowE n ds (ps.take i)) := rowE_ok hds fun p hp => hkn p (List.mem_of_mem_take hp)
      have okp := ptE_ok hds (hkn p hmem)
      have step : rowE n ds (ps.take (i + 1)) = thn (rowE n ds (ps.take i)) (ptE n ds p) := by
        rw [List.take_add_one, hp]
        exact rowE_snoc n ds _ p
      have lt : ∀ x ∈ rowE n ds (ps.take i), x < (ptE n ds p).length := fun x hx => by rw [okp.len]; exact okg.lt x hx
      have ln : (rowE n ds (ps.take i)).length ≤ 1000 := by rw [okg.len]; exact hn
      cases p with
      | nm z =>
        cases hyp
        obtain ⟨e, he⟩ := Option.isSome_iff_exists.mp (hkn _ hmem)
        obtain ⟨kvs, hk1, hk2⟩ := hd.sm sm
        obtain ⟨ve, hv1, hv2⟩ := hk2 z e he
        have hnm : nmE ds z = e := by unfold nmE; rw [he]; rfl
        have hget : DGet H2 dd (.str z) (some ve) := by
          have := DGet.k (k := Sum.inr z) hk1
          rw [hv1] at this
          exact this
        refine ⟨.str z, rfl, .str z, .ty "tuple", .type "str", .type "tuple", false, rfl, .ty _, (Rp.str (CM := CM) (H := H2) z).ty rfl, kit_tup (.str z) rfl, false, rfl, ?_⟩
        refine ⟨rfl, gv, rfl, .ref dd, rfl, .str z, rfl, dd, ve, rfl, hget, gv, ve, _, ptE n ds (.nm z), rfl, hg, ?_, lt, ln, fun H3 r sm3 hr3 => ⟨r, _, _, rfl, sm.trans sm3, ?_⟩⟩
        · show Ef H2 ve (nmE ds z)
          rw [hnm]; exact hv2
        · rw [step]; exact hr3
      | pw r k2 =>
        obtain ⟨a2, y2, rfl, h2, hy2⟩ := hyp
        have h21 := sm _ _ h2
        have hJ : J := hpw ⟨_, hmem, trivial⟩
        have ok2 := hok _ hmem
        have kn2 : ∀ x ∈ r, (ds.lookup x).isSome = true := hkn _ hmem
        refine ⟨.ref a2, rfl, .ref a2, .ty "tuple", .type "tuple", .type "tuple", true, rfl, .ty _, .base (.tup h21), kit_tup (K := K) (.tuple []) rfl, true, rfl, ?_⟩
        refine ⟨.ref a2, rfl, a2, _, 0, y2, rfl, rfl, SqT.of h21, rfl, .ref dd, rfl, nv, rfl, .ref ft, rfl, hJ, n, ds, y2, dd, nv, ft, r.map Pt.nm, rfl, hm, (hy2.sm sm).row ok2.1 ok2.2.2, hds, ?_, ?_, hd.sm sm, hnv.sm sm, hn, fun H3 r3 sm3 hr3 => ?_⟩
        · intro p hp
          obtain ⟨x, hx, rfl⟩ := List.mem_map.mp hp
          exact kn2 x hx
        · rintro ⟨p, hp, hp2⟩
          obtain ⟨x, hx, rfl⟩ := List.mem_map.mp hp
          exact absurd hp2 id
        · rw [rowE_nm] at hr3
          have sm13 := sm.trans sm3
          refine ⟨rfl, gv, rfl, r3, rfl, .ref a2, rfl, a2, _, 1, vn k2, rfl, rfl, SqT.of (sm3 _ _ h21), rfl, nv, rfl, .ref ft, rfl, n, r3, nE n ds r, k2, nv, ft, rfl, hm, hr3, nE_ok hds kn2, hnv.sm sm13, hn, fun H4 r4 sm4 hr4 => ?_⟩
          refine ⟨gv, r4, _, ptE n ds (.pw r k2), rfl, (hg.sm sm3).sm sm4, hr4, lt, ln, fun H5 r5 sm5 hr5 => ⟨r5, _, _, rfl, (sm13.trans sm4).trans sm5, ?_⟩⟩
          rw [step]; exact hr5
      | od => exact absurd (hkn _ hmem) id
    · rintro σ H1 ⟨gv, x5, x6, rfl, sm, hg⟩
      refine ⟨gv, rfl, q _ _ sm ?_⟩
      rw [hal.1, List.take_length] at hg
      exact hg
end
end EO
end
section
set_option Elab.async false
set_option linter.all false
set_option maxRecDepth 100000
set_option maxHeartbeats 1000000
/-! machines, what a row does to them, breaches judged -/
namespace EO
open PySem PySem.Spec PyProof.Rows L2
/-- what is no list stays -/
def KN (H H' : Hp) : Prop := ∀ c o, (∀ xs, o ≠ HO.lst xs) → H c = some o → H' c = some o
theorem KN.of {H H' : Hp} (s : Same H H') : KN H H' := fun c o _ h => s c o h
theorem De.kn {H H' : Hp} {d b : Addr} (de : De H d b) (k : Kp d b H H') : KN H H' := fun c o n h => k c o (de.not h n).1 (de.not h n).2 h
theorem KN.kt {H H' : Hp} (k : KN H H') : KT H H' := fun c xs h => k c _ (fun ys e => nomatch e) h
structure MxF (K : PySem.W.Frag) (CM : Addr) : Prop where
  nD : NoAttr K CM "deeds"
  nN : NoAttr K CM "names"
  nS : NoAttr K CM "size"
def Mc (CM : Addr) (H : Hp) (v : V) (n : Nat) (ds : List (Str × Eff)) : Prop := ∃ (a dx : Addr) (fs : List (Str × V)) (t m : Addr) (o : Obj) (ps : List Addr), v = .ref a ∧ H a = some (.ins CM dx fs) ∧ fs.lookup ("deeds" : Str) = some (.ref t) ∧ fs.lookup ("names" : Str) = some (.ref m) ∧ fs.lookup ("size" : Str) = some (vn n) ∧
  H t = some (.frz o (.tup (ps.map V.ref))) ∧ o.cls = .type "tuple" ∧ o.dict = none ∧ Al (Dd H) (ps.map V.ref) ds ∧ H m = some (.tup (vss (ds.map (·.1))))
theorem Mc.kn {CM : Addr} {H H' : Hp} {v : V} {n : Nat} {ds : List (Str × Eff)} (h : Mc CM H v n ds) (k : KN H H') : Mc CM H' v n ds := by
  obtain ⟨a, dx, fs, t, m, o, ps, e, h1, l1, l2, l3, h2, c1, c2, al, h3⟩ := h
  exact ⟨a, dx, fs, t, m, o, ps, e, k _ _ (fun _ z => nomatch z) h1, l1, l2, l3, k _ _ (fun _ z => nomatch z) h2, c1, c2, al.mono fun _ _ q => q.kt k.kt, k.kt _ _ h3⟩
structure DG (n : Nat) (ds : List (Str × Eff)) : Prop where
  nd : (ds.map (·.1)).Nodup
  ok : ∀ p ∈ ds, Ok n p.2
  nm : ∀ p ∈ ds, nmS p.1 = true
  lo : 2 ≤ n
  hi : n ≤ 6
  few : ds.length ≤ 8
theorem lookup_mem {ds : List (Str × Eff)} {x : Str} {e : Eff} (h : ds.lookup x = some e) : (x, e) ∈ ds := by
  induction ds with
  | nil => cases h
  | cons p r ih =>
    rw [List.lookup_cons] at h
    cases z : (x == p.1) with
    | true =>
      rw [z] at h
      have e1 := eq_of_beq z
      cases h
      rw [e1]
      exact List.mem_cons_self ..
    | false =>
      rw [z] at h
      exact List.mem_cons_of_mem _ (ih h)
theorem lookup_some {ds : List (Str × Eff)} {x : Str} (h : x ∈ ds.map (·.1)) : (ds.lookup x).isSome = true := by
  induction ds with
  | nil => cases h
  | cons p r ih =>
    rw [List.lookup_cons]
    cases z : (x == p.1) with
    | true => rfl
    | false =>
      rw [List.map_cons] at h
      rcases List.mem_cons.mp h with e | h
      · rw [e] at z
        simp at z
      · exact ih h
theorem DG.ds {n : Nat} {ds : List (Str × Eff)} (h : DG n ds) : DsOk n ds := fun x e he => h.ok _ (lookup_mem he)
/-! the dict of a tuple of pairs -/
theorem merge_out : ∀ (kvs acc : List (Key × V)) (j : Key), j ∉ kvs.map (·.1) → valV (mergeK acc kvs) j = valV acc j
  | [], _, _, _ => rfl
  | kv :: r, acc, j, h => by
    have h1 : ¬ j = kv.1 := fun e => h (by rw [e]; exact List.mem_cons_self ..)
    have h2 : j ∉ r.map (·.1) := fun q => h (List.mem_cons_of_mem _ q)
    show valV (mergeK (putK acc kv.1 kv.2) r) j = _
    rw [merge_out r _ j h2, valV_put, if_neg h1]
theorem merge_in : ∀ (kvs acc : List (Key × V)) (j : Key) (v : V), (kvs.map (·.1)).Nodup → valV kvs j = some v → valV (mergeK acc kvs) j = some v
  | [], _, _, _, _, h => by cases h
  | kv :: r, acc, j, v, nd, h => by
    rw [List.map_cons, List.nodup_cons] at nd
    show valV (mergeK (putK acc kv.1 kv.2) r) j = _
    by_cases e : kv.1 = j
    · rw [valV_pos e] at h
      rw [merge_out r _ j (by rw [← e]; exact nd.1), valV_put, if_pos e.symm]
      exact h
    · rw [valV_neg e] at h
      exact merge_in r _ j v nd.2 h
theorem dict_of {K : PySem.W.Frag} {H : Hp} : ∀ (ps : List Addr) (ds : List (Str × Eff)), Al (Dd H) (ps.map V.ref) ds → ∃ kvs : List (Key × V), Paired (fun p kv => SqT K H p [kV kv.1, kv.2]) ps kvs ∧ kvs.map (·.1) = ds.map (fun d => Sum.inr d.1) ∧
    ∀ x e, ds.lookup x = some e → ∃ v, valV kvs (.inr x) = some v ∧ Ef H v e
  | [], [], _ => ⟨[], .nil, rfl, fun _ _ h => by cases h⟩
  | [], _ :: _, h => absurd h.1 (by simp)
  | _ :: _, [], h => absurd h.1 (by simp)
  | p :: ps, d :: ds, h => by
    obtain ⟨v, us, e, r, q⟩ := h.uncons
    cases e
    obtain ⟨kvs, a, b, c⟩ := dict_of (K := K) ps ds q
    obtain ⟨a', y, e, h1, h2⟩ := r
    cases e
    refine ⟨(Sum.inr d.1, y) :: kvs, .cons (SqT.of h1) a, by rw [List.map_cons, List.map_cons, b], fun x e he => ?_⟩
    rw [List.lookup_cons] at he
    cases z : (x == d.1) with
    | true =>
      rw [z] at he
      cases he
      exact ⟨y, valV_pos (congrArg Sum.inr (eq_of_beq z).symm), h2⟩
    | false =>
      rw [z] at he
      obtain ⟨v, h3, h4⟩ := c x e he
      refine ⟨v, ?_, h4⟩
      rw [valV_neg (fun q => by rw [Sum.inr.inj q] at z; simp at z)]
      exact h3
/-- what is known of a row -/
def kne (n : Nat) (ds : List (Str × Eff)) (ps : List Pt) : Option Eff := if strange (ds.map (·.1)) ps = none then some (rowE n ds ps) else none
def PwK (ds : List (Str × Eff)) (ps : List Pt) : Prop := ∀ r k, Pt.pw r k ∈ ps → ∀ x ∈ r, x ∈ ds.map (·.1)
theorem strange_mem {ns : List Str} : ∀ {ps : List Pt}, strange ns ps = none → ∀ x, Pt.nm x ∈ ps → x ∈ ns
  | [], _, _, h => by cases h
  | .nm y :: r, e, x, h => by
    have e' : (if y ∈ ns then strange ns r else some y) = none := e
    by_cases hy : y ∈ ns
    · rw [if_pos hy] at e'
      rcases List.mem_cons.mp h with h | h
      · cases h; exact hy
      · exact strange_mem e' x h
    · rw [if_neg hy] at e'
      cases e'
  | .pw _ _ :: r, e, x, h => by
    rcases List.mem_cons.mp h with h | h
    · cases h
    · exact strange_mem (ps := r) e x h
  | .od :: r, e, x, h => by
    rcases List.mem_cons.mp h with h | h
    · cases h
    · exact strange_mem (ps := r) e x h
theorem kn_of {ds : List (Str × Eff)} {ps : List Pt} (h : strange (ds.map (·.1)) ps = none) (ho : ∀ p ∈ ps, isOd p = false) (hp : PwK ds ps) : ∀ p ∈ ps, Kn ds p
  | .nm x, hm => lookup_some (strange_mem h x hm)
  | .pw r k, hm => fun x hx => lookup_some (hp r k hm x hx)
  | .od, hm => absurd (ho _ hm) (by decide)
section
variable {P : Program} {w : World} {K : PySem.W.Frag} {mg : Str → Option Value} {base : Heap} {CM CN CS : Addr}
def spRE (CM CN : Addr) : Sp := fun vs H Q E => ∃ n ds mv v ps, vs = [mv, v] ∧ Mc CM H mv n ds ∧ DG n ds ∧ RowR H v ps ∧ (∀ p ∈ ps, isOd p = false) ∧ PwK ds ps ∧
  (strange (ds.map (·.1)) ps = none → ∀ H' r, Same H H' → Ef H' r (rowE n ds ps) → Q r H') ∧ ∀ z, strange (ds.map (·.1)) ps = some z → ∀ H' d, Same H H' → H' d = none → E (.ref CN) (some d) (upd H' d (.xd [("name", .str z)]))
abbrev sc_row_effectN : List Str := ["machine", "row"]
theorem sc_row_effect : FnScope sc_row_effectN ["machine", "row"] (defScope (topS 35)) := ⟨rfl, rfl, rfl, by decide +kernel, rfl, by decide +kernel, by decide +kernel⟩
theorem ok_row_effect {k : Nat} (hk : 4 ≤ k) (D : Dfn K mg "row_effect" (topS 35)) (T : Txt K mg CM) (M : MxF K CM) (g_then : ∃ ft, mg "effect_then" = some (.ref ft)) (c_need_names : FnE P w K mg base k "need_names" (spNeed CN)) (c_made_by : Fn P w K mg base k "made_by" (spMade mg True)) :
    FnE P w K mg base (k + 1) "row_effect" (spRE CM CN) := by
  obtain ⟨ft, hft⟩ := g_then
  have g_effect_then : ∃ u, mg "effect_then" = some u ∧ RelV (.ref ft) u := ⟨_, hft, rfl⟩
  refine fn_byX D sc_row_effect (fun _ _ _ _ _ _ us hl => match us, hl with | [_, _], _ => rfl) (fun vs H Q E h => ?_) (fun f cdv A outer s H vs Q E hr h => ?_)
  · obtain ⟨n, ds, mv, v, ps, rfl, _⟩ := h
    rfl
  · obtain ⟨n, ds, mv, v, ps, rfl, ⟨a, dx, fs, t, m, o, tps, rfl, h1, l1, l2, l3, h2, c1, c2, al, h3⟩, hdg, hv, hod, hpw, q1, q2⟩ := h
    refine ⟨_, (pss_cons (ps_expr (pe_fE c_need_names hr (by first | decide | omega) rfl (takes_of rfl rfl rfl rfl) (pa_cons (pv 1) (pa_cons (pe_fld (pv 0) rfl) pa_nil))))
 (pss_one (ps_ret (pe_f c_made_by hr (by first | decide | omega) rfl (pa_cons (pv 1) (pa_cons (pe_callTy (cr_dictT rfl) rfl T.dict PyProof.Rows.Boot.«dict» (pa_cons (pe_fld (pv 0) rfl) pa_nil)) (pa_cons (pe_tupRg rfl rfl T.tuple (prg_1 rfl T.range (pe_fld (pv 0) rfl))) (pa_cons (pe_k rfl g_effect_then) pa_nil)))))))), ?_⟩
    refine ⟨v, rfl, .ref a, rfl, a, CM, dx, fs, .ref m, rfl, h1, T.cl, M.nN, l2, v, .ref m, ps, (ds.map fun z : Str × Eff => z.1), rfl, hv, ⟨m, rfl, h3⟩, hod, hpw, fun est H1 sm => ?_, fun z ez H1 d sm hd => ?_⟩
    · obtain ⟨kvs, pr, ek, hk⟩ := dict_of (K := K) (H := H1) tps ds (al.mono fun _ _ q => q.kt (kt sm))
      have ndk : (kvs.map (·.1)).Nodup := by
        rw [ek]
        have : ds.map (fun d => (Sum.inr d.1 : Key)) = (ds.map (·.1)).map Sum.inr := by rw [List.map_map]; rfl
        rw [this]
        exact List.Pairwise.map _ (fun _ _ h e => h (Sum.inr.inj e)) hdg.nd
      refine ⟨v, rfl, .ref a, rfl, a, CM, dx, fs, .ref t, rfl, sm _ _ h1, T.cl, M.nD, l1, t, o, tps, kvs, rfl, sm _ _ h2, c1, c2, pr, fun p hp => ?_⟩
      have smp := same_new (o := HO.dK (mergeK [] kvs)) hp
      refine ⟨.ref a, rfl, a, CM, dx, fs, vn n, rfl, smp _ _ (sm _ _ h1), T.cl, M.nS, l3, n, rfl, RgOk.of_le (by decide) (by have := hdg.hi; omega) (by decide) (by omega), fun qq hq => ?_⟩
      have smq := same_new (o := HO.tup (rgV 0 (n : Int))) hq
      have sm3 := (sm.trans smp).trans smq
      refine ⟨n, ds, v, p, .ref qq, ft, ps, rfl, hft, hv.kt (kt sm3), hdg.ds, kn_of est hod hpw, fun _ => True.intro, ⟨mergeK [] kvs, smq _ _ upd_same, fun x e he => ?_⟩, ⟨qq, rfl, by rw [upd_same, rg_id]⟩, by have := hdg.hi; omega, fun H' r sm4 hr4 => q1 est H' r (sm3.trans sm4) hr4⟩
      obtain ⟨vv, e1, e2⟩ := hk x e he
      exact ⟨vv, merge_in kvs [] _ _ ndk e1, (e2.sm smp).sm smq⟩
    · exact fun σ => q2 z ez H1 d sm hd
/-! known_effect -/
inductive Cp | row (ps : List Pt) | oth
def CpR (CM : Addr) (H : Hp) (ds : List (Str × Eff)) (v : V) : Cp → Prop
  | .row ps => RowR H v ps ∧ PwK ds ps
  | .oth => ∃ d, Rp CM H v d ∧ isT d = false
theorem CpR.kx {CM : Addr} {H H' : Hp} {ds : List (Str × Eff)} {v : V} : ∀ {c : Cp}, CpR CM H ds v c → KX CM H H' → CpR CM H' ds v c
  | .row _, h, k => ⟨h.1.kt k.t, h.2⟩
  | .oth, ⟨d, h, e⟩, k => ⟨d, h.mono k, e⟩
def knc (n : Nat) (ds : List (Str × Eff)) : Cp → Option Eff
  | .row ps => if (ps.all fun p => !isOd p) = true then kne n ds ps else none
  | .oth => none
def OE (H : Hp) (v : V) : Option Eff → Prop
  | none => v = .non
  | some e => Ef H v e
theorem OE.sm {H H' : Hp} {v : V} : ∀ {o : Option Eff}, OE H v o → Same H H' → OE H' v o
  | none, h, _ => h
  | some _, h, s => Ef.sm h s
def spKE (CM : Addr) : Sp := fun vs H Q _ => ∃ n ds mv v c, vs = [mv, v] ∧ Mc CM H mv n ds ∧ DG n ds ∧ CpR CM H ds v c ∧ ∀ H' r, Same H H' → OE H' r (knc n ds c) → Q r H'
abbrev sc_known_effectN : List Str := ["machine", "value"]
theorem sc_known_effect : FnScope sc_known_effectN ["machine", "value"] (defScope (topS 43)) := ⟨rfl, rfl, rfl, by decide +kernel, rfl, by decide +kernel, by decide +kernel⟩
theorem ok_known_effect {k : Nat} (D : Dfn K mg "known_effect" (topS 43)) (T : Txt K mg CM) (TE : TxE K P mg CN CS) (c_is_row : Fn P w K mg base k "is_row" (spIsRow CM)) (c_row_effect : FnE P w K mg base k "row_effect" (spRE CM CN)) : Fn P w K mg base (k + 1) "known_effect" (spKE CM) := by
  refine fn_by D sc_known_effect (fun _ _ _ _ _ _ us hl => match us, hl with | [_, _], _ => rfl) (fun vs H Q E h => ?_) (fun f cdv A outer s H vs Q E hr h => ?_)
  · obtain ⟨n, ds, mv, v, c, rfl, _⟩ := h
    rfl
  · obtain ⟨n, ds, mv, v, c, rfl, hmc, hdg, hc, q⟩ := h
    refine ⟨_, (pss_cons (ps_if (pt_not (pt_val (pe_f c_is_row hr (by omega) rfl (pa_cons (pv 1) pa_nil)))) (pss_one (ps_ret pe_non)) pss_nil)
      (pss_one (ps_try_only (tb := fun W => tRet (tCall (spRE CM CN) [] (fun cls d H => ∀ σ, W cls d σ H) (tCons (tVar 0) (tCons (tVar 1) tNil)))) (ts := fun _ _ _ => tRet (tC .non)) (Wout := fun _ _ _ _ => False) rfl rfl ⟨rfl, by decide, Or.inl TE.mN⟩ takes0
        (fun W pn xe tk _ => pss_one (ps_ret (pe_fE c_row_effect hr (by omega) rfl tk (by exact (pa_cons (pv 0) (pa_cons (pv 1) pa_nil)))))) (fun _ _ _ _ _ _ _ => pss_one (ps_ret pe_non))))), ?_⟩
    refine ⟨v, rfl, v, rfl, ?_⟩
    cases c with
    | oth =>
      obtain ⟨d, hd, ht⟩ := hc
      exact .inl ⟨d, hd, ht, false, rfl, q H .non (Same.refl H) rfl⟩
    | row ps =>
      obtain ⟨hv, hpw⟩ := hc
      refine .inr ⟨ps, hv, fun H1 sm => ⟨_, rfl, ?_⟩⟩
      have eo : knc n ds (.row ps) = if (ps.all fun p => !isOd p) = true then kne n ds ps else none := rfl
      cases e : (ps.all fun p => !isOd p) with
      | false =>
        rw [e, if_neg Bool.false_ne_true] at eo
        refine q H1 .non sm ?_
        rw [eo]
        rfl
      | true =>
        rw [e, if_pos rfl] at eo
        have hod : ∀ p ∈ ps, isOd p = false := fun p hp => by
          have := List.all_eq_true.mp e p hp
          simpa using this
        refine ⟨mv, rfl, v, rfl, n, ds, mv, v, ps, rfl, hmc.kn (KN.of sm), hdg, hv.kt (kt sm), hod, hpw, fun est H' r sm2 hr2 => q H' r (sm.trans sm2) ?_, fun z ez H' d sm2 hd σ => ?_⟩
        · rw [eo]
          unfold kne
          rw [if_pos est]
          exact hr2
        · refine ⟨true, TE.eN, fun _ a _ => q _ .non ((sm.trans sm2).trans (same_new hd)) ?_, fun z => nomatch z⟩
          rw [eo]
          unfold kne
          rw [ez, if_neg (fun z => nomatch z)]
          rfl
end

/-! defs that are also called with keywords alone -/
structure FnK (P : Program) (w : World) (K : PySem.W.Frag) (mg : Str → Option Value) (base : Heap) (CX : CXT) (k : Nat) (x : Str) (st : Stmt) (ps : List Str) (sp : Sp) : Prop where
  ex : ∃ (f : Addr) (kV doc pm : Value) (an : Option Addr) (cdv ct : Value), FnOk P w K mg base CX k f (PySem.W.fnOf x x (defArgs st) (defBody st) (defScope st) .none kV doc pm an cdv ct) ps sp ∧ mg x = some (.ref f) ∧ PySem.W.keepIn K (.ref f) = true
section
variable {P : Program} {w : World} {K : PySem.W.Frag} {mg : Str → Option Value} {base : Heap}
theorem fn_byK {x : Str} {st : Stmt} {N ps : List Str} {k : Nat} {sp : Sp} (D : Dfn K mg x st) (S : FnScope N ps (defScope st))
    (len : ∀ vs H Q E, sp vs H Q E → vs.length = ps.length)
    (body : ∀ (f : Addr) (cdv : Value) (A : Around) (outer : List Env) (s : Shared) (H : Hp) (vs : List V) (Q : VK) (E : XK), Room k (A.deeper (envOfC x (defScope st) s.heap.objs.size f cdv)) → sp vs H Q E →
      ∃ t, PSs (cxOf CX0 P w K mg base N x (defScope st) f cdv A outer s H E).nox (defBody st) t ∧ t { nx := fun _ H' => Q .non H', rt := Q } (start N vs) H) : FnK P w K mg base CX0 (k + 1) x st ps sp := by
  obtain ⟨f, fd, F, m⟩ := D.ex
  have G := F.ok S len fun cdv A outer s H vs Q E hr hs => body f cdv A outer s H vs Q E hr hs
  have kp := F.kp
  obtain ⟨oc, od, kV, doc, pm, an, cdv, ct, osl, rfl, lk, hcd⟩ := F.ex
  exact ⟨f, kV, doc, pm, an, cdv, ct, G, m, kp⟩
theorem fn_byXK {x : Str} {st : Stmt} {N ps : List Str} {k : Nat} {sp : Sp} (D : Dfn K mg x st) (S : FnScope N ps (defScope st))
    (len : ∀ vs H Q E, sp vs H Q E → vs.length = ps.length)
    (body : ∀ (f : Addr) (cdv : Value) (A : Around) (outer : List Env) (s : Shared) (H : Hp) (vs : List V) (Q : VK) (E : XK), Room k (A.deeper (envOfC x (defScope st) s.heap.objs.size f cdv)) → sp vs H Q E →
      ∃ t, PSs (cxOf (L2.CX P w) P w K mg base N x (defScope st) f cdv A outer s H E) (defBody st) t ∧ t { nx := fun _ H' => Q .non H', rt := Q } (start N vs) H) : FnK P w K mg base (L2.CX P w) (k + 1) x st ps sp := by
  obtain ⟨f, fd, F, m⟩ := D.ex
  have G := F.okX S len fun cdv A outer s H vs Q E hr hs => body f cdv A outer s H vs Q E hr hs
  have kp := F.kp
  obtain ⟨oc, od, kV, doc, pm, an, cdv, ct, osl, rfl, lk, hcd⟩ := F.ex
  exact ⟨f, kV, doc, pm, an, cdv, ct, G, m, kp⟩
theorem FnK.fn {x : Str} {st : Stmt} {ps : List Str} {k : Nat} {sp : Sp} (F : FnK P w K mg base CX0 k x st ps sp)
    (hb : ∀ (kV doc pm : Value) (an : Option Addr) (cdv ct : Value) (us : List Value), us.length = ps.length → bindArgs (PySem.W.fnOf x x (defArgs st) (defBody st) (defScope st) .none kV doc pm an cdv ct) ⟨us, []⟩ = pure (ps.zip us)) : Fn P w K mg base k x sp := by
  obtain ⟨f, kV, doc, pm, an, cdv, ct, G, m, kp⟩ := F.ex
  exact ⟨f, _, ps, G, m, kp, .all (hb kV doc pm an cdv ct)⟩
theorem FnK.fnE {x : Str} {st : Stmt} {ps : List Str} {k : Nat} {sp : Sp} (F : FnK P w K mg base (L2.CX P w) k x st ps sp)
    (hb : ∀ (kV doc pm : Value) (an : Option Addr) (cdv ct : Value) (us : List Value), us.length = ps.length → bindArgs (PySem.W.fnOf x x (defArgs st) (defBody st) (defScope st) .none kV doc pm an cdv ct) ⟨us, []⟩ = pure (ps.zip us)) : FnE P w K mg base k x sp := by
  obtain ⟨f, kV, doc, pm, an, cdv, ct, G, m, kp⟩ := F.ex
  exact ⟨f, _, ps, G, m, kp, .all (hb kV doc pm an cdv ct)⟩
end
section
variable {X : Cx} {CX : CXT} {k n : Nat} {f : Addr} {fd : FuncData} {ps ks : List Str} {sp : Sp} {E : XK} {x : Str} {p pos : Pos} {kws : List Keyword} {tk : TA} {g : List Value → List Value → List Value} {gV : List V → List V → List V}
/-- f(k = v, ..) -/
theorem pe_callN0 (F : FnOk X.prog X.w X.K X.mg X.base CX k f fd ps sp) (hr : Room k X.A) (hg : Gl X x) (hm : X.mg x = some (.ref f)) (hk : PySem.W.keepIn X.K (.ref f) = true) (hb : KBn X.K fd ps 0 ks g gV) (hx : Passes CX X E) (hkw : PK X kws tk)
    (hall : (backToKw pos (keywordEach kws X.env)).all (·.1.isSome) = true := by rfl) (hks : (backToKw pos (keywordEach kws X.env)).filterMap (·.1) = ks := by rfl) (hdb : (x == ("__debug__" : Str)) = false := by decide)
    (hpl : ((backTo pos (starEach [] X.env)).any (·.1) || (backToKw pos (keywordEach kws X.env)).any (·.1.isNone)) = false := by rfl) :
    PE X (.Call (.Name x p) [] kws pos) (tCallN 0 ks.length sp gV E tNil tk) := by
  refine ⟨fun pins s σ H Q I h => wpAny_Call_Name_kw (ld_glob I hg hm (PySem.W.callWith_KW0 (h₀ := X.base) I.ok.mod.kin hk hall ?_ hpl) hdb)⟩
  refine L2.thn (hkw.run pos pins s σ H _ I h) fun ws s2 ⟨zs, H2, I2, rz, l1, l2, q2⟩ => ⟨I2.kIn, ?_⟩
  rw [hks]
  exact run_fnN (us := []) (vs := []) F hr hb hx I2 .nil rz rfl l2 q2
end
end EO
end
section
set_option Elab.async false
set_option linter.all false
set_option maxRecDepth 100000
set_option maxHeartbeats 1000000
/-! breaches judged -/
namespace EO
open PySem PySem.Spec PyProof.Rows L2
inductive Zt | non | int (i : Int) | oth
def ZtR (CM : Addr) (H : Hp) (v : V) : Zt → Prop
  | .non => v = .non
  | .int i => v = .int i
  | .oth => ∃ d, Rp CM H v d ∧ isD d = false ∧ isI d = false ∧ v ≠ .non
theorem ZtR.kx {CM : Addr} {H H' : Hp} {v : V} : ∀ {c : Zt}, ZtR CM H v c → KX CM H H' → ZtR CM H' v c
  | .non, h, _ => h
  | .int _, h, _ => h
  | .oth, ⟨d, h, e⟩, k => ⟨d, h.mono k, e⟩
/-- the clauses -/
def jud (n : Nat) (e g : Eff) (z : Zt) : Bool :=
  !decide (e = idE n) && (!decide (g = idE n) && match z with
    | .non => decide (thn e g = thn g e) && !decide (stl e = stl g)
    | .int i => decide (stl e = stl g) && (decide (0 ≤ i) && (decide (i < n) && !decide (ap (thn e g) i.toNat = ap (thn g e) i.toNat)))
    | .oth => false)
def isBr (n : Nat) (ds : List (Str × Eff)) (x y : Cp) (z : Zt) : Bool :=
  match knc n ds x, knc n ds y with
  | some e, some g => jud n e g z
  | _, _ => false
theorem knc_ok {CM : Addr} {H : Hp} {n : Nat} {ds : List (Str × Eff)} {v : V} {c : Cp} (hdg : DG n ds) (hc : CpR CM H ds v c) {e : Eff} (h : knc n ds c = some e) : Ok n e := by
  cases c with
  | oth => cases h
  | row ps =>
    have h' : (if (ps.all fun p => !isOd p) = true then kne n ds ps else none) = some e := h
    split at h'
    · rename_i ha
      unfold kne at h'
      split at h'
      · rename_i hs
        cases h'
        refine rowE_ok hdg.ds (kn_of hs (fun p hp => ?_) hc.2)
        have := List.all_eq_true.mp ha p hp
        simpa using this
      · cases h'
    · cases h'
section
variable {P : Program} {w : World} {K : PySem.W.Frag} {mg : Str → Option Value} {base : Heap} {CM CN CS : Addr}
def spBH (CM : Addr) : Sp := fun vs H Q _ => ∃ n ds mv v, vs = [mv, v] ∧ Mc CM H mv n ds ∧ DG n ds ∧
  ((∃ d, Rp CM H v d ∧ (isT d = false ∨ ∃ xs, d = .tuple xs ∧ xs.length ≠ 3 ∧ xs.length ≤ 1000) ∧ Q (.bl false) H) ∨
   (∃ a x y z X Y Z, v = .ref a ∧ H a = some (.tup [x, y, z]) ∧ CpR CM H ds x X ∧ CpR CM H ds y Y ∧ ZtR CM H z Z ∧ ∀ H', Same H H' → Q (.bl (isBr n ds X Y Z)) H') ∨
   ∃ a x y z Y, v = .ref a ∧ H a = some (.tup [x, y, z]) ∧ CpR CM H ds x .oth ∧ CpR CM H ds y Y ∧ ∀ H', Same H H' → Q (.bl false) H')
abbrev sc_breach_holdsN : List Str := ["machine", "value", "one", "other", "at", "nothing", "alike", "first", "second"]
theorem sc_breach_holds : FnScope sc_breach_holdsN ["machine", "value"] (defScope (topS 44)) := ⟨rfl, rfl, rfl, by decide +kernel, rfl, by decide +kernel, by decide +kernel⟩
theorem ok_breach_holds {k : Nat} (hk : 4 ≤ k) (D : Dfn K mg "breach_holds" (topS 44)) (T : Txt K mg CM) (M : MxF K CM) (c_known_effect : Fn P w K mg base k "known_effect" (spKE CM)) (c_still_states : Fn P w K mg base 1 "still_states" spStT) (c_effect_then : Fn P w K mg base 1 "effect_then" spThen)
    (c_is_below : Fn P w K mg base 2 "is_below" (spBelow CM)) : FnK P w K mg base CX0 (k + 1) "breach_holds" (topS 44) ["machine", "value"] (spBH CM) := by
  refine fn_byK D sc_breach_holds (fun vs H Q E h => ?_) (fun f cdv A outer s H vs Q E hr h => ?_)
  · obtain ⟨n, ds, mv, v, rfl, _⟩ := h
    rfl
  · obtain ⟨n, ds, mv, v, rfl, hmc, hdg, h⟩ := h
    refine ⟨_, (pss_cons (ps_if (PW.pt (pw_or (pt_not (pt_val (pe_callB call_isi rfl T.isinstance PyProof.Rows.Boot.«isinstance» (pa_cons (pv 1) (pa_cons (pe_bltn (v := .ty "tuple") rfl T.tuple PyProof.Rows.Boot.«tuple» rfl) pa_nil))))) (pw_or1 (pt_cmpR op_ne (pe_callB call_len_seq rfl T.len PySem.boot_len (pa_cons (pv 1) pa_nil)) pe_int (nomark _)))))
 (pss_one (ps_ret pe_bl))
 pss_nil)
 (pss_cons (ps_par3 (i := 2) (j := 3) (l := 4) rfl sc_breach_holds.nd rfl rfl rfl (by decide) (by decide) (by decide) rfl rfl rfl (pa_cons (pe_f c_known_effect hr (by first | decide | omega) rfl (pa_cons (pv 0) (pa_cons (pe_ix ix_tup (pv 1) pe_int (fun _ _ => rfl)) pa_nil))) (pa_cons (pe_f c_known_effect hr (by first | decide | omega) rfl (pa_cons (pv 0) (pa_cons (pe_ix ix_tup (pv 1) pe_int (fun _ _ => rfl)) pa_nil))) (pa_cons (pe_ix ix_tup (pv 1) pe_int (fun _ _ => rfl)) pa_nil))) (by rfl))
 (pss_cons (ps_set (i := 5) sc_breach_holds.nd rfl (Or.inl rfl) (pe_tupRg rfl rfl T.tuple (prg_1 rfl T.range (pe_fld (pv 0) rfl))))
 (pss_cons (ps_if (PW.pt (pw_or (pt_cmpR op_isN (pv 2) pe_non (nomark _)) (pw_or (pt_cmpR op_isN (pv 3) pe_non (nomark _)) (pw_or (pt_cmpR (op_eqD hr.units) (pv 2) (pv 5) (nomark _)) (pw_or1 (pt_cmpR (op_eqD hr.units) (pv 3) (pv 5) (nomark _)))))))
 (pss_one (ps_ret pe_bl))
 pss_nil)
 (pss_cons (ps_set (i := 6) sc_breach_holds.nd rfl (Or.inl rfl) (pe_cmpR (op_eqD hr.units) (pe_f c_still_states hr (by first | decide | omega) rfl (pa_cons (pv 2) pa_nil)) (pe_f c_still_states hr (by first | decide | omega) rfl (pa_cons (pv 3) pa_nil)) (nomark _)))
 (pss_cons (ps_par (i := 7) (j := 8) rfl sc_breach_holds.nd rfl rfl (by decide) rfl rfl (pa_cons (pe_f c_effect_then hr (by first | decide | omega) rfl (pa_cons (pv 2) (pa_cons (pv 3) pa_nil))) (pa_cons (pe_f c_effect_then hr (by first | decide | omega) rfl (pa_cons (pv 3) (pa_cons (pv 2) pa_nil))) pa_nil)) (by rfl))
 (pss_cons (ps_if (pt_cmpR op_isN (pv 4) pe_non (nomark _))
 (pss_one (ps_ret (pe_and (pe_cmpR (op_eqD hr.units) (pv 7) (pv 8) (nomark _)) (pe_one (pe_not (pv 6))))))
 pss_nil)
 (pss_one (ps_ret (pe_and (pv 6) (pe_and (pe_f c_is_below hr (by first | decide | omega) rfl (pa_cons (pv 4) (pa_cons (pe_fld (pv 0) rfl) pa_nil))) (pe_one (pe_cmpR op_ne (pe_ix ix_tup (pv 7) (pv 4) (fun _ _ => rfl)) (pe_ix ix_tup (pv 8) (pv 4) (fun _ _ => rfl)) (nomark _)))))))))))))), ?_⟩
    rcases h with ⟨d, hd, ht, q⟩ | ⟨a, x, y, z, X, Y, Z, rfl, ha, hx, hy, hz, q⟩ | ⟨a, x, y, z, Y, rfl, ha, hx, hy, q⟩
    · obtain ⟨t, ty1, ty2⟩ := hd.tup_ty T
      refine ⟨v, rfl, v, .ty "tuple", t, .type "tuple", isT d, rfl, .ty _, ty1, ty2, isT d, rfl, ?_⟩
      rcases ht with ht | ⟨xs, rfl, h3, h4⟩
      · rw [ht]
        exact q
      · cases hd with
        | tup ha hr =>
          rename_i a vs
          have hl := hr.al.1
          refine ⟨.ref a, rfl, a, vs, rfl, .inr (SqT.of ha), rfl, true, ?_, q⟩
          refine congrArg V.bl ?_
          rw [hl]
          have : ¬ (V.int (xs.length : Int) = V.int 3) := fun e => h3 (by have := V.int.inj e; omega)
          rw [decide_eq_false this]
          rfl
    · have tyT : TyX K H (.ref a) (.type "tuple") := .base (.tup ha)
      refine ⟨.ref a, rfl, .ref a, .ty "tuple", .type "tuple", .type "tuple", true, rfl, .ty _, tyT, kit_tup (K := K) (.tuple []) rfl, true, rfl, .ref a, rfl, a, _, rfl, .inr (SqT.of ha), rfl, false, rfl, ?_⟩
      refine ⟨mv, rfl, .ref a, rfl, a, _, 0, x, rfl, rfl, SqT.of ha, rfl, n, ds, mv, x, X, rfl, hmc, hdg, hx, fun H1 r1 sm1 o1 => ?_⟩
      refine ⟨mv, rfl, .ref a, rfl, a, _, 1, y, rfl, rfl, SqT.of (sm1 _ _ ha), rfl, n, ds, mv, y, Y, rfl, hmc.kn (KN.of sm1), hdg, hy.kx (kx sm1), fun H2 r2 sm2 o2 => ?_⟩
      have sm12 := sm1.trans sm2
      refine ⟨.ref a, rfl, a, _, 2, z, rfl, rfl, SqT.of (sm12 _ _ ha), rfl, _, _, _, rfl, ?_⟩
      have hm2 := hmc.kn (KN.of sm12)
      obtain ⟨ma, dx, fs, t, m, o, tps, rfl, h1, l1, l2, l3, h2, c1, c2, al, h3⟩ := hm2
      refine ⟨.ref ma, rfl, ma, CM, dx, fs, vn n, rfl, h1, T.cl, M.nS, l3, n, rfl, RgOk.of_le (by decide) (by have := hdg.hi; omega) (by decide) (by omega), fun qq hq => ?_⟩
      have smq := same_new (o := HO.tup (rgV 0 (n : Int))) hq
      have sm3 := sm12.trans smq
      have hid : Ef (upd H2 qq (.tup (rgV 0 (n : Int)))) (.ref qq) (idE n) := ⟨qq, rfl, by rw [upd_same, rg_id]⟩
      have o1' := (o1.sm sm2).sm smq
      have o2' := o2.sm smq
      have ok1 : ∀ e, knc n ds X = some e → Ok n e := fun e he => knc_ok hdg hx he
      have ok2 : ∀ e, knc n ds Y = some e → Ok n e := fun e he => knc_ok hdg hy he
      have hn6 := hdg.hi
      have bad : isBr n ds X Y Z = false → Q (.bl false) (upd H2 qq (.tup (rgV 0 (n : Int)))) := fun eb => by
        have := q _ sm3
        rw [eb] at this
        exact this
      cases eX : knc n ds X with
      | none =>
        rw [eX] at o1'
        cases o1'
        exact ⟨.non, rfl, rfl, true, rfl, bad (by unfold isBr; rw [eX])⟩
      | some e =>
        rw [eX] at o1'
        have oke := ok1 e eX
        obtain ⟨a1, rfl, e1⟩ := o1'
        have he1 : Ef (upd H2 qq (.tup (rgV 0 (n : Int)))) (.ref a1) e := ⟨a1, rfl, e1⟩
        refine ⟨.ref a1, rfl, rfl, false, rfl, ?_⟩
        cases eY : knc n ds Y with
        | none =>
          rw [eY] at o2'
          cases o2'
          exact ⟨.non, rfl, rfl, true, rfl, bad (by unfold isBr; rw [eX, eY])⟩
        | some g =>
          rw [eY] at o2'
          have okg := ok2 g eY
          obtain ⟨a2, rfl, e2⟩ := o2'
          have he2 : Ef (upd H2 qq (.tup (rgV 0 (n : Int)))) (.ref a2) g := ⟨a2, rfl, e2⟩
          have hB : isBr n ds X Y Z = jud n e g Z := by unfold isBr; rw [eX, eY]
          refine ⟨.ref a2, rfl, rfl, false, rfl, ?_⟩
          refine ⟨.ref a1, rfl, .ref qq, rfl, dE e, dE (idE n), he1.dp, hid.dp, shaped_dE _, shaped_dE _, decide (e = idE n), congrArg V.bl (eqv_dE _ _), ite2 (fun z1 => ?_) (fun z1 => ?_)⟩
          · exact bad (by rw [hB]; unfold jud; rw [z1]; rfl)
          refine ⟨.ref a2, rfl, .ref qq, rfl, dE g, dE (idE n), he2.dp, hid.dp, shaped_dE _, shaped_dE _, decide (g = idE n), congrArg V.bl (eqv_dE _ _), ite2 (fun z2 => ?_) (fun z2 => ?_)⟩
          · exact bad (by rw [hB]; unfold jud; rw [z2]; simp)
          have ez1 : decide (e = idE n) = false := by simpa using z1
          have ez2 : decide (g = idE n) = false := by simpa using z2
          have le : e.length ≤ 1000 := by rw [oke.len]; omega
          have lg : g.length ≤ 1000 := by rw [okg.len]; omega
          refine ⟨.ref a1, rfl, .ref a1, e, rfl, he1, le, fun H3 s1 sm31 hs1 => ⟨.ref a2, rfl, .ref a2, g, rfl, he2.sm sm31, lg, fun H4 s2 sm32 hs2 => ?_⟩⟩
          refine ⟨dE (stl e), dE (stl g), (hs1.sm sm32).dp, hs2.dp, shaped_dE _, shaped_dE _, ?_⟩
          rw [eqv_dE]
          have sm4 := sm31.trans sm32
          refine ⟨.ref a1, rfl, .ref a2, rfl, .ref a1, .ref a2, e, g, rfl, he1.sm sm4, he2.sm sm4, fun x hx => by rw [okg.len]; exact oke.lt x hx, le, fun H5 f1 sm5 hf1 => ?_⟩
          refine ⟨.ref a2, rfl, .ref a1, rfl, .ref a2, .ref a1, g, e, rfl, (he2.sm sm4).sm sm5, (he1.sm sm4).sm sm5, fun x hx => by rw [oke.len]; exact okg.lt x hx, lg, fun H6 f2 sm6 hf2 => ?_⟩
          refine ⟨_, _, rfl, z, rfl, ?_⟩
          have hf1' := hf1.sm sm6
          have smA := (sm3.trans sm4).trans (sm5.trans sm6)
          have okeg := ok_thn oke okg
          have okge := ok_thn okg oke
          have fin : ∀ H7 b, Same H6 H7 → b = isBr n ds X Y Z → Q (.bl b) H7 := fun H7 b s e => by rw [e]; exact q _ (smA.trans s)
          cases Z with
          | non =>
            cases hz
            refine ⟨rfl, true, rfl, ?_⟩
            refine ⟨f1, rfl, f2, rfl, dE (thn e g), dE (thn g e), hf1'.dp, hf2.dp, shaped_dE _, shaped_dE _, decide (thn e g = thn g e), congrArg V.bl (eqv_dE _ _), ite2 (fun z3 => ?_) (fun z3 => ?_)⟩
            · refine ⟨_, rfl, _, rfl, fin _ _ (Same.refl _) ?_⟩
              rw [hB]; unfold jud; rw [ez1, ez2, z3]; rfl
            · refine fin _ _ (Same.refl _) ?_
              have z3' : decide (thn e g = thn g e) = false := by simpa using z3
              rw [hB]; unfold jud; rw [ez1, ez2, z3']; rfl
          | int i =>
            cases hz
            refine ⟨rfl, false, rfl, ?_⟩
            refine ⟨_, rfl, _, rfl, ite2 (fun z3 => ?_) (fun z3 => ?_)⟩
            · have h16 : H6 ma = some (.ins CM dx fs) := sm6 _ _ (sm5 _ _ (sm4 _ _ (smq _ _ h1)))
              refine ⟨.int i, rfl, .ref ma, rfl, ma, CM, dx, fs, vn n, rfl, h16, T.cl, M.nS, l3, .int i, .int i, (n : Int), rfl, .int i, rfl, isBel (n : Int) (.int i), rfl, ite2 (fun z4 => ?_) (fun z4 => ?_)⟩
              · have z4' : (decide (0 ≤ i) && decide (i < (n : Int))) = true := z4
                rw [Bool.and_eq_true] at z4'
                have i0 : 0 ≤ i := of_decide_eq_true z4'.1
                have i1 : i < (n : Int) := of_decide_eq_true z4'.2
                have hi1 : i.toNat < (thn e g).length := by rw [okeg.len]; omega
                have hi2 : i.toNat < (thn g e).length := by rw [okge.len]; omega
                obtain ⟨b1, rfl, hb1⟩ := hf1'
                obtain ⟨b2, rfl, hb2⟩ := hf2
                have at1 : atI (vns (thn e g)) i = some (vn (ap (thn e g) i.toNat)) := by
                  have := at_vn hi1
                  rw [show ((i.toNat : Nat) : Int) = i by omega] at this
                  exact this
                have at2 : atI (vns (thn g e)) i = some (vn (ap (thn g e) i.toNat)) := by
                  have := at_vn hi2
                  rw [show ((i.toNat : Nat) : Int) = i by omega] at this
                  exact this
                refine ⟨.ref b1, rfl, .int i, rfl, b1, _, i, _, rfl, rfl, SqT.of hb1, at1, .ref b2, rfl, .int i, rfl, b2, _, i, _, rfl, rfl, SqT.of hb2, at2, rfl, fin _ _ (Same.refl _) ?_⟩
                rw [hB]; unfold jud; rw [ez1, ez2, z3]
                show _ = (true && (decide (0 ≤ i) && (decide (i < (n : Int)) && !decide (ap (thn e g) i.toNat = ap (thn g e) i.toNat))))
                rw [z4'.1, z4'.2]
                have : decide (vn (ap (thn e g) i.toNat) = vn (ap (thn g e) i.toNat)) = decide (ap (thn e g) i.toNat = ap (thn g e) i.toNat) := by
                  rw [decide_eq_decide]
                  exact ⟨fun h => Int.ofNat.inj (V.int.inj h), fun h => by rw [h]⟩
                rw [this]; rfl
              · refine fin _ _ (Same.refl _) ?_
                have z4' : (decide (0 ≤ i) && decide (i < (n : Int))) = false := Bool.eq_false_iff.mpr z4
                rw [hB]; unfold jud; rw [ez1, ez2, z3]
                show false = (true && (true && (true && (decide (0 ≤ i) && (decide (i < (n : Int)) && _)))))
                rw [← Bool.and_assoc (decide (0 ≤ i)), z4']; rfl
            · refine fin _ _ (Same.refl _) ?_
              have z3' : decide (stl e = stl g) = false := by simpa using z3
              rw [hB]; unfold jud; rw [ez1, ez2, z3']; rfl
          | oth =>
            obtain ⟨d, hd, hdd, hdi, hnon⟩ := hz
            refine ⟨rfl, false, congrArg V.bl (decide_eq_false hnon), ?_⟩
            refine ⟨_, rfl, _, rfl, ite2 (fun z3 => ?_) (fun z3 => ?_)⟩
            · have h16 : H6 ma = some (.ins CM dx fs) := sm6 _ _ (sm5 _ _ (sm4 _ _ (smq _ _ h1)))
              have hnb : isBel (n : Int) d = false := by cases d <;> first | rfl | cases hdi
              refine ⟨z, rfl, .ref ma, rfl, ma, CM, dx, fs, vn n, rfl, h16, T.cl, M.nS, l3, z, d, (n : Int), rfl, hd.mono (kx smA), hdd, false, congrArg V.bl hnb, fin _ _ (Same.refl _) ?_⟩
              rw [hB]; unfold jud; rw [ez1, ez2]; rfl
            · refine fin _ _ (Same.refl _) ?_
              rw [hB]; unfold jud; rw [ez1, ez2]; rfl
    · have tyT : TyX K H (.ref a) (.type "tuple") := .base (.tup ha)
      refine ⟨.ref a, rfl, .ref a, .ty "tuple", .type "tuple", .type "tuple", true, rfl, .ty _, tyT, kit_tup (K := K) (.tuple []) rfl, true, rfl, .ref a, rfl, a, _, rfl, .inr (SqT.of ha), rfl, false, rfl, ?_⟩
      refine ⟨mv, rfl, .ref a, rfl, a, _, 0, x, rfl, rfl, SqT.of ha, rfl, n, ds, mv, x, .oth, rfl, hmc, hdg, hx, fun H1 r1 sm1 o1 => ?_⟩
      refine ⟨mv, rfl, .ref a, rfl, a, _, 1, y, rfl, rfl, SqT.of (sm1 _ _ ha), rfl, n, ds, mv, y, Y, rfl, hmc.kn (KN.of sm1), hdg, hy.kx (kx sm1), fun H2 r2 sm2 o2 => ?_⟩
      have sm12 := sm1.trans sm2
      refine ⟨.ref a, rfl, a, _, 2, z, rfl, rfl, SqT.of (sm12 _ _ ha), rfl, _, _, _, rfl, ?_⟩
      have hm2 := hmc.kn (KN.of sm12)
      obtain ⟨ma, dx, fs, t, m, o, tps, rfl, h1, l1, l2, l3, h2, c1, c2, al, h3⟩ := hm2
      refine ⟨.ref ma, rfl, ma, CM, dx, fs, vn n, rfl, h1, T.cl, M.nS, l3, n, rfl, RgOk.of_le (by decide) (by have := hdg.hi; omega) (by decide) (by omega), fun qq hq => ?_⟩
      cases o1
      exact ⟨.non, rfl, rfl, true, rfl, q _ (sm12.trans (same_new hq))⟩
end
end EO
end
section
set_option Elab.async false
set_option linter.all false
set_option maxRecDepth 100000
set_option maxHeartbeats 1000000
/-! a machine is made -/
namespace EO
open PySem PySem.Spec PyProof.Rows L2
theorem ltr_small : ∀ c, ltr c = true → c < 0x110000 := fun c h => by
  have h2 : c ∈ abc.cps.toList := of_decide_eq_true h
  exact (show ∀ c ∈ abc.cps.toList, c < 0x110000 by decide) c h2
theorem nmS_ok {x : Str} (h : nmS x = true) : PyData.canLay0 (.str x) = true := by
  have hs : x = SX.S x.cps.toList := (SX.S_tl x).symm
  rw [hs] at h
  have h3 := (nmS_S.mp h).2.2
  show (x.cps.all fun c => decide (c < 0x110000)) = true
  rw [← Array.all_toList, List.all_eq_true]
  exact fun c hc => decide_eq_true (ltr_small c (h3 c hc))
section
variable {P : Program} {w : World} {K : PySem.W.Frag} {mg : Str → Option Value} {base : Heap} {CM CN CS : Addr}
theorem dd_data {H : Hp} : ∀ {vs : List V} {ds : List (Str × Eff)}, Al (Dd H) vs ds → (∀ p ∈ ds, nmS p.1 = true) → ∃ xs, DpAll K H vs xs ∧ PyData.canLayAll0 xs = true ∧ PyData.depthAll xs ≤ 2 ∧ xs.length = vs.length
  | [], _, _, _ => ⟨[], .nil, rfl, Nat.zero_le _, rfl⟩
  | v :: vs, [], h, _ => absurd h.1 (by simp)
  | v :: vs, d :: ds, h, hn => by
    obtain ⟨v', us, e, r, q⟩ := h.uncons
    cases e
    obtain ⟨xs, a, b, c, e⟩ := dd_data q fun p hp => hn p (List.mem_cons_of_mem _ hp)
    obtain ⟨t, y, rfl, h1, h2⟩ := r
    refine ⟨.tuple [.str d.1, dE d.2] :: xs, .cons (.tup (SqT.of h1) (.cons (.str _) (.cons h2.dp .nil))) a, ?_, ?_, by simp [e]⟩
    · have := nmS_ok (hn d (List.mem_cons_self ..))
      simp [PyData.canLayAll0, PyData.canLay0, dE, lay_ints, b] at this ⊢
      exact this
    · simp [PyData.depthAll, PyData.depth, dE, depth_ints]
      omega
theorem ne_nilX {R : Bool → Hp → Prop} {te : TE} {σ : L2.St} {H : Hp} {p : Addr} {xs : List V} (e0 : ∀ Q, Q (.ref p) H → te σ H Q) (e1 : H p = some (.lst xs)) (hp : ∀ H2, Same H H2 → ∃ ds, DpAll K H2 xs ds ∧ PyData.canLayAll0 ds = true ∧ PyData.depthAll ds ≤ 60 ∧ ds.length = xs.length) (q : ∀ H2, Same H H2 → R (!xs.isEmpty) H2) :
    tTest (tOp (rNeD K) te (tLst tNil)) σ H R := by
  refine e0 _ ⟨Nat.zero_le _, fun p2 hp2 => ?_⟩
  have sm := same_new (o := HO.lst []) hp2
  obtain ⟨ds, a, b, c, e⟩ := hp _ sm
  refine ⟨.list ds, .list [], .lst (SqL.of (sm _ _ e1)) a, .lst (SqL.of upd_same) .nil, ?_, rfl, _, rfl, ?_⟩
  · simp [SeqAt.shaped, PyData.canLay0, b, PyData.depth]; omega
  · have z : (!PyData.eqv (.list ds) (.list [])) = !xs.isEmpty := by
      cases ds with
      | nil =>
        cases xs with
        | nil => rfl
        | cons _ _ => cases e
      | cons _ _ =>
        cases xs with
        | nil => cases e
        | cons _ _ => rfl
    rw [z]
    exact q _ sm
theorem Ef.rp {H : Hp} {v : V} {e : List Nat} (h : Ef H v e) : Rp CM H v (.tuple (e.map dI)) := by
  obtain ⟨a, rfl, h⟩ := h
  refine .tup h ?_
  clear h
  induction e with
  | nil => exact .nil
  | cons x r ih => exact .cons (.int _) ih
def spIsDeed : Sp := fun vs H Q _ => ∃ v p x e xs ds n, vs = [v, .ref p] ∧ Dd H v (x, e) ∧ H p = some (.lst xs) ∧ Al (Dd H) xs ds ∧ (∀ p ∈ ds, nmS p.1 = true) ∧ (∀ p ∈ ds, Ok n p.2) ∧ nmS x = true ∧ x ∉ ds.map (·.1) ∧ Ok n e ∧ 2 ≤ n ∧ n ≤ 6 ∧ ds.length ≤ 100 ∧ ∀ H', Same H H' → Q (.bl true) H'
abbrev sc_is_deedN : List Str := ["value", "earlier", "name", "images", "image", "deed"]
theorem sc_is_deed : FnScope sc_is_deedN ["value", "earlier"] (defScope (topS 29)) := ⟨rfl, rfl, rfl, by decide +kernel, rfl, by decide +kernel, by decide +kernel⟩
theorem ok_is_deed (D : Dfn K mg "is_deed" (topS 29)) (T : Txt K mg CM) (c_is_name : Fn P w K mg base 2 "is_name" (spName CM)) (c_is_sequence : Fn P w K mg base 1 "is_sequence" (spSeq CM)) (c_is_below : Fn P w K mg base 2 "is_below" (spBelow CM)) : Fn P w K mg base 3 "is_deed" spIsDeed := by
  refine fn_by D sc_is_deed (fun _ _ _ _ _ _ us hl => match us, hl with | [_, _], _ => rfl) (fun vs H Q E h => ?_) (fun f cdv A outer s H vs Q E hr h => ?_)
  · obtain ⟨v, p, x, e, xs, ds, n, rfl, _⟩ := h
    rfl
  · obtain ⟨v, p, x, e, xs, ds, n, rfl, ⟨a, y, rfl, ha, hy⟩, hp, hal, hns, hoks, hx, hxn, he, hn2, hn6, hlen, q⟩ := h
    obtain ⟨ya, rfl, hya⟩ := hy
    have hyE : Ef H (.ref ya) e := ⟨ya, rfl, hya⟩
    have hle : (vns e).length = n := by rw [List.length_map, he.len]
    refine ⟨_, (pss_cons (ps_if (PW.pt (pw_or (pt_not (pt_val (pe_callB call_isi rfl T.isinstance PyProof.Rows.Boot.«isinstance» (pa_cons (pv 0) (pa_cons (pe_bltn (v := .ty "tuple") rfl T.tuple PyProof.Rows.Boot.«tuple» rfl) pa_nil))))) (pw_or (pt_cmpR op_ne (pe_callB call_len_seq rfl T.len PySem.boot_len (pa_cons (pv 0) pa_nil)) pe_int (nomark _)) (pw_or1 (pt_not (pt_val (pe_f c_is_name hr (by first | decide | omega) rfl (pa_cons (pe_ix ix_tup (pv 0) pe_int (fun _ _ => rfl)) pa_nil))))))))
 (pss_one (ps_ret pe_bl))
 pss_nil)
 (pss_cons (ps_asg (pv 0) (pg_tup (n := 2) rfl (pgs_cons (pg_name (i := 2) sc_is_deed.nd rfl (Or.inl rfl)) (pgs_cons (pg_name (i := 3) sc_is_deed.nd rfl (Or.inr rfl)) pgs_nil))))
 (pss_cons (ps_if (PW.pt (pw_or (pt_cmpR op_in_seq (pv 2) (pe_lc (own := [("deed", 5)]) rfl sc_is_deed.nd (pi_list (pv 1)) (blkOk_by (N := sc_is_deedN) (sc := defScope (topS 29)) (by decide +kernel)) (fun _ _ _ _ _ => (pg_name (i := 5) sc_is_deed.nd rfl (Or.inl rfl))) (fun _ _ _ _ _ => pts_nil) (fun _ _ _ _ _ => (pe_ix (ix_tup : IxR _ (rIxT K)) (pv 5) pe_int (fun _ _ => rfl)))) (by rfl)) (pw_or1 (pt_not (pt_val (pe_f c_is_sequence hr (by first | decide | omega) rfl (pa_cons (pv 3) pa_nil)))))))
 (pss_one (ps_ret pe_bl))
 pss_nil)
 (pss_cons (ps_if (PW.pt (pw_or (pt_not (pt_chain op_le op_le pe_int (pe_callB call_len_seq rfl T.len PySem.boot_len (pa_cons (pv 3) pa_nil)) (pe_k rfl T.MOST_STATES))) (pw_or1 (PW.pt (pw_and (pt_cmpR (op_neD hr.units) (pv 1) (pe_lst pa_nil) (nomark _)) (pw_and1 (pt_cmpR op_ne (pe_callB call_len_seq rfl T.len PySem.boot_len (pa_cons (pv 3) pa_nil)) (pe_callB call_len_seq rfl T.len PySem.boot_len (pa_cons (pe_ix ix_tup (pe_ix ix_list (pv 1) pe_int (fun _ _ => rfl)) pe_int (fun _ _ => rfl)) pa_nil)) (nomark _))))))))
 (pss_one (ps_ret pe_bl))
 pss_nil)
 (pss_one (ps_ret (pe_callB (cr_all rfl) rfl T.all PyProof.Rows.Boot.«all» (pa_cons (pe_lc (own := [("image", 4)]) rfl sc_is_deed.nd (pi_tup (pv 3)) (blkOk_by (N := sc_is_deedN) (sc := defScope (topS 29)) (by decide +kernel)) (fun _ _ _ _ _ => (pg_name (i := 4) sc_is_deed.nd rfl (Or.inl rfl))) (fun _ _ _ _ _ => pts_nil) (fun _ _ _ _ _ => (pe_f c_is_below hr (by first | decide | omega) rfl (pa_cons (pv 4) (pa_cons (pe_callB (call_lens : CallR _ _ (rLenSeq K)) rfl T.len PySem.boot_len (pa_cons (pv 3) pa_nil)) pa_nil))))) pa_nil)))))))), ?_⟩
    refine ⟨.ref a, rfl, .ref a, .ty "tuple", .type "tuple", .type "tuple", true, rfl, .ty _, .base (.tup ha), kit_tup (K := K) (.tuple []) rfl, true, rfl, .ref a, rfl, a, _, rfl, .inr (SqT.of ha), rfl, false, rfl, ?_⟩
    refine ⟨.ref a, rfl, a, _, 0, .str x, rfl, rfl, SqT.of ha, rfl, .str x, .str x, rfl, .str x, rfl, ?_, fun H1 sm => ⟨true, congrArg V.bl hx, ?_⟩⟩
    · intro z e; cases e
      have := nmS_len hx
      omega
    refine ⟨.ref a, rfl, a, _, rfl, SqT.of (sm _ _ ha), rfl, _, _, rfl, _, _, rfl, rfl, ?_⟩
    -- name in [deed[0] for deed in earlier]
    refine ⟨.str x, rfl, .ref p, rfl, p, rfl, ⟨_, SqL.of (sm _ _ hp)⟩, fun Dl hD => lc_it walk_list (fun i H' => Same H1 H' ∧ H' Dl = some (.lst (vss ((ds.map (·.1)).take i)))) ⟨same_new hD, upd_same⟩ (fun _ _ _ p => SqL.of (p.1 _ _ (sm _ _ hp))) ?_ ?_⟩
    · rintro i z H2 H3 hi ⟨sm2, eD⟩ ⟨rfl, hz⟩
      obtain ⟨d, hd, t, y2, rfl, h1, h2⟩ := hal.at' hz
      have h11 := sm2 _ _ (sm _ _ h1)
      refine ⟨rfl, .ref t, rfl, t, _, 0, .str d.1, rfl, rfl, SqT.of h11, rfl, _, eD, ?_, same_at sm2 hD, ?_⟩
      · rw [List.length_map, List.length_take]
        exact szl (by have := hal.1; rw [List.length_map]; omega)
      · rw [upd_same, List.take_add_one, List.getElem?_map, hd, vss, vss, List.map_append]
        rfl
    · rintro H2 ⟨sm2, eD⟩
      have eD' : H2 Dl = some (.lst (vss (ds.map (·.1)))) := by
        rw [eD, hal.1, ← List.length_map (·.1), List.take_length]
      refine ⟨Dl, _, rfl, .inl (SqL.of eD'), rfl, flat_vss _, false, ?_, ?_⟩
      · rw [if_neg Bool.false_ne_true, inV_str, decide_eq_false hxn]
      · have sm12 := sm.trans sm2
        refine ⟨.ref ya, rfl, .ref ya, .tuple (e.map dI), rfl, (hyE.sm sm12).rp, rfl, fun H3 sm3 => ⟨true, rfl, ?_⟩⟩
        have s3 := sm12.trans sm3
        refine ⟨.ref ya, rfl, ya, _, rfl, .inr (SqT.of (s3 _ _ hya)), 2, _, rfl, rfl, true, ?_, ?_⟩
        · refine congrArg V.bl (decide_eq_true ?_)
          rw [hle]; omega
        refine ⟨_, 49, rfl, rfl, true, ?_, ?_⟩
        · refine congrArg V.bl (decide_eq_true ?_)
          rw [hle]; omega
        have rest : ∀ H4, Same H3 H4 → (tRet (tCB (rAll K) (tCons (tLc (iTup K (tVar 3)) (gName 4) tYes (tCall (spBelow CM) [] E0 (tCons (tVar 4) (tCons (tCB (fun xs H Q => ∃ p ys, xs = [V.ref p] ∧ (SqL K H p ys ∨ SqT K H p ys) ∧ Q (V.int ys.length) H) (tCons (tVar 3) tNil)) tNil))) [4]) tNil))) { nx := fun x H' => Q V.non H', rt := Q } [some (.ref a), some (.ref p), some (.str x), some (.ref ya), none, none] H4 := by
          intro H4 sm4
          have s4 := s3.trans sm4
          refine ⟨.ref ya, rfl, ya, rfl, ⟨_, SqT.of (s4 _ _ hya)⟩, fun D2 hD2 => lc_it walk_tup (fun i H' => Same H4 H' ∧ H' D2 = some (.lst ((List.replicate i true).map V.bl))) ⟨same_new hD2, upd_same⟩ (fun _ _ _ p => SqT.of (p.1 _ _ (s4 _ _ hya))) ?_ ?_⟩
          · rintro i z H5 H6 hi ⟨sm5, eD2⟩ ⟨rfl, hz⟩
            obtain ⟨hie, rfl⟩ := vns_at hz
            have hb : isBel (n : Int) (.int ((ap e i : Nat) : Int)) = true := by
              show (decide (0 ≤ ((ap e i : Nat) : Int)) && decide (((ap e i : Nat) : Int) < (n : Int))) = true
              have := he.ap_lt (show i < n by rw [← he.len]; exact hie)
              rw [decide_eq_true (by omega), decide_eq_true (by omega)]
              rfl
            refine ⟨rfl, _, rfl, .ref ya, rfl, ya, vns e, rfl, .inr (SqT.of (sm5 _ _ (s4 _ _ hya))), vn (ap e i), .int _, (n : Int), ?_, .int _, rfl, ?_⟩
            · rw [hle]; rfl
            · rw [hb]
              refine ⟨_, eD2, ?_, same_at sm5 hD2, ?_⟩
              · rw [List.length_map, List.length_replicate]
                exact szl (by have h1 : i < e.length := hie; have h2 := he.len; omega)
              · rw [upd_same, List.replicate_succ', List.map_append]
                rfl
          · rintro H5 ⟨sm5, eD2⟩
            refine ⟨D2, List.replicate (vns e).length true, rfl, SqL.of eD2, ?_⟩
            have : (List.replicate (vns e).length true).all id = true := by
              rw [List.all_eq_true]
              exact fun b hb => List.eq_of_mem_replicate hb
            rw [this]
            exact q _ (s4.trans sm5)
        refine ne_nilX (fun Q h => ⟨_, rfl, h⟩) (s3 _ _ hp) (fun H4 sm4 => ?_) (fun H4 sm4 => ?_)
        · obtain ⟨xs', a1, a2, a3, a4⟩ := dd_data (K := K) (hal.mono fun _ _ h => h.kt (kt (s3.trans sm4))) hns
          exact ⟨xs', a1, a2, by omega, a4⟩
        · cases xs with
          | nil => exact rest H4 sm4
          | cons x0 xr =>
            cases ds with
            | nil => exact absurd hal.1 (by simp)
            | cons d0 dr =>
              obtain ⟨t, y2, rfl, g1, ⟨yy, rfl, g2⟩⟩ := hal.2 0 x0 d0 rfl rfl
              have s4 := s3.trans sm4
              have hl0 := (hoks d0 (List.mem_cons_self ..)).len
              refine ⟨.ref ya, rfl, ya, _, rfl, .inr (SqT.of (s4 _ _ hya)), .ref p, rfl, p, _, 0, .ref t, rfl, rfl, SqL.of (s4 _ _ hp), atI_nat (j := 0) rfl, t, _, 1, .ref yy, rfl, rfl, SqT.of (s4 _ _ g1), rfl, yy, _, rfl, .inr (SqT.of (s4 _ _ g2)), rfl, false, ?_, rest H4 sm4⟩
              refine congrArg V.bl ?_
              rw [hle, List.length_map, hl0]
              simp
end
end EO
end
section
set_option Elab.async false
set_option linter.all false
set_option maxRecDepth 100000
set_option maxHeartbeats 1000000
/-! Machine(deeds) -/
namespace EO
open PySem PySem.Spec PyProof.Rows L2
structure DfnM (K : PySem.W.Frag) (mg : Str → Option Value) (CM : Addr) (st : Stmt) : Prop where
  ex : ∃ f fd, Fun K "__init__" "Machine.__init__" st f fd ∧ Mk K CM f
  mM : mg "Machine" = some (.ref CM)
structure FnM (P : Program) (w : World) (K : PySem.W.Frag) (mg : Str → Option Value) (base : Heap) (CM : Addr) (k : Nat) (sp : Sp) : Prop where
  ex : ∃ (f : Addr) (fd : FuncData) (ps : List Str), FnOk P w K mg base CX0 k f fd ps sp ∧ Mk K CM f ∧ Binds K fd ps []
  mM : mg "Machine" = some (.ref CM)
theorem pe_mk' {X : Cx} {CM : Addr} {k j : Nat} {sp : Sp} {p pos : Pos} {e : Expr} {es : List Expr} {t : TA} (c : FnM X.prog X.w X.K X.mg X.base CM k sp) (hr : Room j X.A) (hk : k + 1 ≤ j) (hg : Gl X "Machine") (ha : PA X (e :: es) t)
    (he : starEach (e :: es) X.env = (false, eval e X.env) :: starEach es X.env := by rfl) (hpl : (backTo pos (starEach es X.env)).any (·.1) = false := by rfl) : PE X (.Call (.Name "Machine" p) (e :: es) [] pos) (tMake CM sp [] E0 t) := by
  obtain ⟨f, fd, ps, F, M, b⟩ := c.ex
  exact pe_make M F (hr.mono hk) hg c.mM b .nil pass0 ha (by decide) he hpl
theorem refs_of {H : Hp} : ∀ {vs : List V} {ds : List (Str × Eff)}, Al (Dd H) vs ds → ∃ ps : List Addr, vs = ps.map V.ref
  | [], _, _ => ⟨[], rfl⟩
  | v :: vs, [], h => absurd h.1 (by simp)
  | v :: vs, d :: ds, h => by
    obtain ⟨v', us, e, ⟨a, y, e2, _⟩, q⟩ := h.uncons
    cases e
    obtain ⟨ps, rfl⟩ := refs_of q
    exact ⟨a :: ps, by rw [e2]; rfl⟩
section
variable {P : Program} {w : World} {K : PySem.W.Frag} {mg : Str → Option Value} {base : Heap} {CM CN CS : Addr}
def spMInit (K : PySem.W.Frag) (CM : Addr) : Sp := fun vs H Q _ => ∃ x dx l xs ds n, vs = [.ref x, .ref l] ∧ H x = some (.ins CM dx []) ∧ SqL K H l xs ∧ H l = some (.lst xs) ∧ Al (Dd H) xs ds ∧ DG n ds ∧ 1 ≤ ds.length ∧
  ∀ H', (∀ c o, c ≠ x → H c = some o → H' c = some o) → Mc CM H' (.ref x) n ds → Q .non H'
abbrev sc_Machine___init__N : List Str := ["self", "deeds", "found", "at", "deed"]
theorem sc_Machine___init__ : FnScope sc_Machine___init__N ["self", "deeds"] (defScope (inClass (topS 30) 0)) := ⟨rfl, rfl, rfl, by decide +kernel, rfl, by decide +kernel, by decide +kernel⟩
theorem ok_Machine (D : DfnM K mg CM (inClass (topS 30) 0)) (T : Txt K mg CM) (M : MxF K CM) (c_is_deed : Fn P w K mg base 3 "is_deed" spIsDeed) (c_is_sequence : Fn P w K mg base 1 "is_sequence" (spSeq CM)) : FnM P w K mg base CM 4 (spMInit K CM) := by
  obtain ⟨f, fd, F, mk⟩ := D.ex
  refine ⟨⟨f, fd, _, F.ok sc_Machine___init__ (fun vs H Q E h => ?_) (fun cdv A outer s H vs Q E hr h => ?_), mk, F.binds (fun _ _ _ _ _ _ us hl => match us, hl with | [_, _], _ => rfl)⟩, D.mM⟩
  · obtain ⟨x, dx, l, xs, ds, n, rfl, _⟩ := h
    rfl
  · obtain ⟨x, dx, l, xs, ds, n, rfl, hx, _, hl, hal, hdg, hd1, q⟩ := h
    refine ⟨_, (pss_cons (ps_if (PW.pt (pw_or (pt_not (pt_val (pe_f c_is_sequence hr (by first | decide | omega) rfl (pa_cons (pv 1) pa_nil)))) (pw_or1 (pt_not (pt_chain op_le op_le pe_int (pe_callB call_len_seq rfl T.len PySem.boot_len (pa_cons (pv 1) pa_nil)) (pe_k rfl T.MOST_DEEDS))))))
 (pss_one ps_never)
 pss_nil)
 (pss_cons (ps_set (i := 2) sc_Machine___init__.nd rfl (Or.inl rfl) (pe_lst pa_nil))
 (pss_cons (ps_for PassesOwn.never rfl (pi_enum rfl T.enumerate (pa_cons (pv 1) pa_nil)) (pg_tup (n := 2) rfl (pgs_cons (pg_name (i := 3) sc_Machine___init__.nd rfl (Or.inl rfl)) (pgs_cons (pg_name (i := 4) sc_Machine___init__.nd rfl (Or.inl rfl)) pgs_nil)))
 (pss_cons (ps_if (pt_not (pt_val (pe_f c_is_deed hr (by first | decide | omega) rfl (pa_cons (pv 4) (pa_cons (pv 2) pa_nil)))))
 (pss_one ps_never)
 pss_nil)
 (pss_one (ps_expr (pe_bm PySem.F.plainAttrs_list PySem.F.slot_list_append PySem.F.type_list_append mt_append (pv 2) (pa_cons (pe_tup (pa_cons (pe_ix ix_tup (pv 4) pe_int (fun _ _ => rfl)) (pa_cons (pe_callTy call_tuple_of rfl T.tuple PyProof.Rows.Boot.«tuple» (pa_cons (pe_ix ix_tup (pv 4) pe_int (fun _ _ => rfl)) pa_nil)) pa_nil))) pa_nil))))))
 (pss_cons (ps_fld (pv 0) (pe_callTy cr_tupleF rfl T.tuple PyProof.Rows.Boot.«tuple» (pa_cons (pv 2) pa_nil)) rfl)
 (pss_cons (ps_fld (pv 0) (pe_callTy call_tuple_of rfl T.tuple PyProof.Rows.Boot.«tuple» (pa_cons (pe_lc (own := [("deed", 4)]) rfl sc_Machine___init__.nd (pi_list (pv 2)) (blkOk_by (N := sc_Machine___init__N) (sc := defScope (inClass (topS 30) 0)) (by decide +kernel)) (fun _ _ _ _ _ => (pg_name (i := 4) sc_Machine___init__.nd rfl (Or.inl rfl))) (fun _ _ _ _ _ => pts_nil) (fun _ _ _ _ _ => (pe_ix (ix_tup : IxR _ (rIxT K)) (pv 4) pe_int (fun _ _ => rfl)))) pa_nil)) rfl)
 (pss_one (ps_fld (pv 0) (pe_callB call_len_seq rfl T.len PySem.boot_len (pa_cons (pe_ix ix_tup (pe_ix ix_list (pv 2) pe_int (fun _ _ => rfl)) pe_int (fun _ _ => rfl)) pa_nil)) rfl))))))), ?_⟩
    refine ⟨.ref l, rfl, .ref l, .list [], rfl, .lst hl, rfl, fun H1 sm1 => ⟨true, rfl, ?_⟩⟩
    have hdl := hdg.few
    have hxl := hal.1
    refine ⟨.ref l, rfl, l, xs, rfl, .inl (SqL.of (sm1 _ _ hl)), 1, _, rfl, rfl, true, congrArg V.bl (decide_eq_true (by omega)), _, 8, rfl, rfl, true, congrArg V.bl (decide_eq_true (by omega)), ?_⟩
    refine ⟨Nat.zero_le _, fun p hp => ?_⟩
    have hp0 : H p = none := none_back sm1 hp
    have npx : p ≠ x := fun z => by rw [z, hx] at hp0; cases hp0
    refine ⟨.ref l, rfl, l, _, rfl, SqL.of (same_new hp _ _ (sm1 _ _ hl)), for_it walk_enum (fun i σ H' => ∃ x3 x4 ys, σ = [some (.ref x), some (.ref l), some (.ref p), x3, x4] ∧ Same H H' ∧ H' p = some (.lst ys) ∧ Al (Dd H') ys (ds.take i)) ⟨_, _, [], rfl, sm1.trans (same_new hp), upd_same, Al.nil⟩ (fun i σ H' _ ⟨_, _, _, _, sm, _⟩ => SqL.of (sm _ _ hl)) ?_ ?_⟩
    · rintro i y σ H2 H3 hi ⟨x3, x4, ys, rfl, sm, e1, hys⟩ ⟨tt, x1, x2, rfl, ht, rfl, hx1, hy⟩
      cases hx1
      obtain ⟨d, hd, t, yv, rfl, h1, ⟨yy, rfl, h2⟩⟩ := hal.at' hy
      have hmem := List.mem_of_getElem? hd
      have hid : i < ds.length := (List.getElem?_eq_some_iff.mp hd).1
      have smt := same_new (o := HO.tup [V.int (i : Nat), .ref t]) ht
      have sm2 := sm.trans smt
      have hl8 : (ds.take i).length ≤ 8 := by rw [List.length_take]; omega
      refine ⟨tt, _, rfl, SqT.of upd_same, rfl, _, _, rfl, _, _, rfl, rfl, ?_⟩
      refine ⟨.ref t, rfl, .ref p, rfl, .ref t, p, d.1, d.2, ys, ds.take i, n, rfl, ⟨t, .ref yy, rfl, sm2 _ _ h1, ⟨yy, rfl, sm2 _ _ h2⟩⟩, smt _ _ e1, hys.mono fun _ _ h => h.kt (kt smt), fun q hq => hdg.nm q (List.mem_of_mem_take hq), fun q hq => hdg.ok q (List.mem_of_mem_take hq), hdg.nm d hmem, ?_, hdg.ok d hmem, hdg.lo, hdg.hi, by omega, fun H4 sm4 => ⟨true, rfl, ?_⟩⟩
      · intro hin
        have nd := hdg.nd
        have e0 : ds = ds.take i ++ d :: ds.drop (i + 1) := by
          have := (List.take_append_drop i ds).symm
          rw [List.drop_eq_getElem_cons hid, (List.getElem?_eq_some_iff.mp hd).2] at this
          exact this
        rw [e0, List.map_append, List.map_cons, List.nodup_append] at nd
        exact nd.2.2 d.1 hin d.1 (List.mem_cons_self ..) rfl
      · have e14 := sm4 _ _ (smt _ _ e1)
        have sm24 := sm2.trans sm4
        refine ⟨.ref p, rfl, .inl ⟨rfl, _, SqL.of e14⟩, .ref t, rfl, t, _, 0, .str d.1, rfl, rfl, SqT.of (sm24 _ _ h1), rfl, .ref t, rfl, t, _, 1, .ref yy, rfl, rfl, SqT.of (sm24 _ _ h1), rfl, yy, _, rfl, .inr ⟨SqT.of (sm24 _ _ h2), by show 2 ≤ sizeLine; decide, fun q hq => ?_⟩⟩
        have smq := same_new (o := HO.tup [V.str d.1, .ref yy]) hq
        have e15 := smq _ _ e14
        refine ⟨p, ys, .ref q, rfl, rfl, e15, szl (by rw [hys.1]; omega), ?_⟩
        have k6 := kt_lst (o := HO.lst (ys ++ [.ref q])) e15
        refine ⟨_, _, ys ++ [.ref q], rfl, same_at (sm24.trans smq) hp0, upd_same, ?_⟩
        rw [List.take_add_one, hd]
        exact Al.snoc (hys.mono fun _ _ h => (h.kt (kt (smt.trans (sm4.trans smq)))).kt k6) ⟨q, .ref yy, rfl, k6 _ _ upd_same, ⟨yy, rfl, k6 _ _ (smq _ _ (sm24 _ _ h2))⟩⟩
    · rintro σ H2 ⟨x3, x4, ys, rfl, sm, e1, hys⟩
      rw [hxl, List.take_length] at hys
      obtain ⟨ps, rfl⟩ := refs_of hys
      have hxs := sm _ _ hx
      -- self.deeds
      refine ⟨.ref p, rfl, p, _, rfl, SqL.of e1, fun t o ht oc od => ⟨.ref x, rfl, x, CM, dx, [], rfl, same_new ht _ _ hxs, T.cl, M.nD, by decide, ?_⟩⟩
      have smt := same_new (o := HO.frz o (.tup (ps.map V.ref))) ht
      have ntx : t ≠ x := ne_of_none hxs ht |>.symm
      generalize hH3 : upd (upd H2 t (.frz o (.tup (ps.map V.ref)))) x (.ins CM dx (putF "deeds" (.ref t) [])) = H3
      have k3 : ∀ c u, c ≠ x → H2 c = some u → H3 c = some u := fun c u nc h => by rw [← hH3, upd_ne nc]; exact smt _ _ h
      have x3' : H3 x = some (.ins CM dx (putF "deeds" (.ref t) [])) := by rw [← hH3]; exact upd_same
      have t3 : H3 t = some (.frz o (.tup (ps.map V.ref))) := by rw [← hH3, upd_ne ntx]; exact upd_same
      have e13 : H3 p = some (.lst (ps.map V.ref)) := k3 _ _ npx e1
      have kt3 : KT H2 H3 := fun c u h => k3 c _ (fun z => by rw [z, hxs] at h; cases h) h
      have hys3 := hys.mono fun _ _ h => Dd.kt h kt3
      -- self.names
      refine ⟨.ref p, rfl, p, rfl, ⟨_, SqL.of e13⟩, fun Dl hD => lc_it walk_list (fun i H' => Same H3 H' ∧ H' Dl = some (.lst (vss ((ds.map (·.1)).take i)))) ⟨same_new hD, upd_same⟩ (fun _ _ _ p => SqL.of (p.1 _ _ e13)) ?_ ?_⟩
      · rintro i z H4 H5 hi ⟨sm4, eD⟩ ⟨rfl, hz⟩
        obtain ⟨d, hd, t', y2, rfl, h1, h2⟩ := hys3.at' hz
        refine ⟨rfl, .ref t', rfl, t', _, 0, .str d.1, rfl, rfl, SqT.of (sm4 _ _ h1), rfl, _, eD, ?_, same_at sm4 hD, ?_⟩
        · rw [List.length_map, List.length_take]
          exact szl (by rw [List.length_map]; omega)
        · rw [upd_same, List.take_add_one, List.getElem?_map, hd, vss, vss, List.map_append]
          rfl
      · rintro H4 ⟨sm4, eD⟩
        have eD' : H4 Dl = some (.lst (vss (ds.map (·.1)))) := by
          rw [eD, hys.1, ← List.length_map (·.1), List.take_length]
        refine ⟨Dl, _, rfl, .inl ⟨SqL.of eD', fun m hm => ⟨.ref x, rfl, x, CM, dx, _, rfl, same_new hm _ _ (sm4 _ _ x3'), T.cl, M.nN, by show (1 : Nat) < 1000; decide, ?_⟩⟩⟩
        have smm := same_new (o := HO.tup (vss (ds.map (·.1)))) hm
        have nmx : m ≠ x := ne_of_none (sm4 _ _ x3') hm |>.symm
        generalize hH5 : upd (upd H4 m (.tup (vss (ds.map (·.1))))) x (.ins CM dx (putF "names" (.ref m) (putF "deeds" (.ref t) []))) = H5
        have k5 : ∀ c u, c ≠ x → H3 c = some u → H5 c = some u := fun c u nc h => by rw [← hH5, upd_ne nc]; exact smm _ _ (sm4 _ _ h)
        have x5' : H5 x = some (.ins CM dx (putF "names" (.ref m) (putF "deeds" (.ref t) []))) := by rw [← hH5]; exact upd_same
        have m5 : H5 m = some (.tup (vss (ds.map (·.1)))) := by rw [← hH5, upd_ne nmx]; exact upd_same
        have e15 := k5 _ _ npx e13
        have t5 := k5 _ _ ntx t3
        have kt5 : KT H3 H5 := fun c u h => k5 c _ (fun z => by rw [z, x3'] at h; cases h) h
        have hys5 := hys3.mono fun _ _ h => Dd.kt h kt5
        -- self.size
        cases ds with
        | nil => exact absurd hd1 (by simp)
        | cons d0 dr =>
          cases ps with
          | nil => exact absurd hys.1 (by simp)
          | cons p0 pr =>
            obtain ⟨t0, y0, e0, g1, ⟨yy, rfl, g2⟩⟩ := hys5.2 0 (.ref p0) d0 rfl rfl
            cases e0
            refine ⟨.ref p, rfl, p, _, 0, .ref p0, rfl, rfl, SqL.of e15, atI_nat (j := 0) rfl, p0, _, 1, .ref yy, rfl, rfl, SqT.of g1, rfl, yy, _, rfl, .inr (SqT.of g2), .ref x, rfl, x, CM, dx, _, rfl, x5', T.cl, M.nS, by show (2 : Nat) < 1000; decide, ?_⟩
            have e9 : V.int ((vns d0.2).length : Int) = vn n := by rw [List.length_map, (hdg.ok d0 (List.mem_cons_self ..)).len]; rfl
            show Q .non (upd H5 x (.ins CM dx (putF "size" (V.int ((vns d0.2).length : Int)) _)))
            rw [e9]
            have k9 : ∀ c u, c ≠ x → H c = some u → upd H5 x (.ins CM dx (putF "size" (vn n) (putF "names" (.ref m) (putF "deeds" (.ref t) [])))) c = some u := fun c u nc h => by rw [upd_ne nc]; exact k5 _ _ nc (k3 _ _ nc (sm _ _ h))
            refine q _ k9 ⟨x, dx, _, t, m, o, p0 :: pr, rfl, upd_same, rfl, rfl, rfl, ?_, oc, od, ?_, ?_⟩
            · rw [upd_ne ntx]; exact t5
            · refine hys5.mono fun _ _ h => Dd.kt h fun c u hc => ?_
              rw [upd_ne (fun z => by rw [z, x5'] at hc; cases hc)]
              exact hc
            · rw [upd_ne nmx]; exact m5
end
end EO
end
section
set_option linter.all false
/-! the breadth-first listing -/
namespace EO
open PySem
abbrev Lst := List (Eff × List Str)
def fsts (F : Lst) : List Eff := F.map (·.1)
def exp1 (e : Eff) (r : List Str) (F : Lst) (d : Str × Eff) : Lst := if thn e d.2 ∈ fsts F then F else F ++ [(thn e d.2, r ++ [d.1])]
def expd (ds : List (Str × Eff)) (e : Eff) (r : List Str) (F : Lst) : Lst := ds.foldl (exp1 e r) F
def bfs (ds : List (Str × Eff)) (k : Nat) (F : Lst) : Lst :=
  match F[k]? with
  | some (e, r) => expd ds e r F
  | none => F
def bf (n : Nat) (ds : List (Str × Eff)) : Nat → Lst
  | 0 => [(idE n, [])]
  | k + 1 => bfs ds k (bf n ds k)
theorem expd_snoc (ds : List (Str × Eff)) (d : Str × Eff) (e : Eff) (r : List Str) (F : Lst) : expd (ds ++ [d]) e r F = exp1 e r (expd ds e r F) d := by
  unfold expd
  rw [List.foldl_append]
  rfl
/-- it grows at the end -/
def Grow (F G : Lst) : Prop := ∃ t, G = F ++ t
theorem Grow.refl (F : Lst) : Grow F F := ⟨[], by simp⟩
theorem Grow.trans {F G H : Lst} (a : Grow F G) (b : Grow G H) : Grow F H := by
  obtain ⟨t, rfl⟩ := a
  obtain ⟨u, rfl⟩ := b
  exact ⟨t ++ u, by simp⟩
theorem Grow.at {F G : Lst} (a : Grow F G) {i : Nat} {p : Eff × List Str} (h : F[i]? = some p) : G[i]? = some p := by
  obtain ⟨t, rfl⟩ := a
  rw [List.getElem?_append_left (List.getElem?_eq_some_iff.mp h).1]
  exact h
theorem Grow.len {F G : Lst} (a : Grow F G) : F.length ≤ G.length := by
  obtain ⟨t, rfl⟩ := a
  simp
theorem Grow.sub {F G : Lst} (a : Grow F G) {e : Eff} (h : e ∈ fsts F) : e ∈ fsts G := by
  obtain ⟨t, rfl⟩ := a
  unfold fsts at *
  rw [List.map_append]
  exact List.mem_append_left _ h
theorem grow1 (e : Eff) (r : List Str) (F : Lst) (d : Str × Eff) : Grow F (exp1 e r F d) := by
  unfold exp1
  split
  · exact Grow.refl F
  · exact ⟨_, rfl⟩
theorem growD (e : Eff) (r : List Str) : ∀ (ds : List (Str × Eff)) (F : Lst), Grow F (expd ds e r F)
  | [], F => Grow.refl F
  | d :: ds, F => (grow1 e r F d).trans (growD e r ds (exp1 e r F d))
theorem growS (ds : List (Str × Eff)) (k : Nat) (F : Lst) : Grow F (bfs ds k F) := by
  unfold bfs
  split
  · exact growD _ _ ds F
  · exact Grow.refl F
theorem growB (n : Nat) (ds : List (Str × Eff)) {j k : Nat} (h : j ≤ k) : Grow (bf n ds j) (bf n ds k) := by
  induction h with
  | refl => exact Grow.refl _
  | step _ ih => exact ih.trans (growS ds _ _)
/-- no effect stands twice -/
theorem nd1 {e : Eff} {r : List Str} {F : Lst} {d : Str × Eff} (h : (fsts F).Nodup) : (fsts (exp1 e r F d)).Nodup := by
  unfold exp1
  split
  · exact h
  · rename_i hn
    unfold fsts at *
    rw [List.map_append]
    refine List.nodup_append.mpr ⟨h, by simp, ?_⟩
    intro a ha b hb hab
    rw [List.map_singleton, List.mem_singleton] at hb
    rw [hab, hb] at ha
    exact hn ha
theorem ndD {e : Eff} {r : List Str} : ∀ (ds : List (Str × Eff)) (F : Lst), (fsts F).Nodup → (fsts (expd ds e r F)).Nodup
  | [], _, h => h
  | d :: ds, F, h => ndD ds (exp1 e r F d) (nd1 h)
theorem ndB (n : Nat) (ds : List (Str × Eff)) : ∀ k, (fsts (bf n ds k)).Nodup
  | 0 => by simp [bf, fsts]
  | k + 1 => by
    show (fsts (bfs ds k (bf n ds k))).Nodup
    unfold bfs
    split
    · exact ndD ds _ (ndB n ds k)
    · exact ndB n ds k
theorem bf_pos (n : Nat) (ds : List (Str × Eff)) (k : Nat) : (bf n ds k)[0]? = some (idE n, []) := (growB n ds (Nat.zero_le k)).at rfl
/-- what holds of all -/
theorem all1 {p : Eff × List Str → Prop} {e : Eff} {r : List Str} {F : Lst} {d : Str × Eff} (h : ∀ x ∈ F, p x) (hd : p (thn e d.2, r ++ [d.1])) : ∀ x ∈ exp1 e r F d, p x := by
  unfold exp1
  split
  · exact h
  · intro x hx
    rcases List.mem_append.mp hx with hx | hx
    · exact h x hx
    · rw [List.mem_singleton.mp hx]; exact hd
theorem allD {p : Eff × List Str → Prop} {e : Eff} {r : List Str} : ∀ (ds : List (Str × Eff)) (F : Lst), (∀ x ∈ F, p x) → (∀ d ∈ ds, p (thn e d.2, r ++ [d.1])) → ∀ x ∈ expd ds e r F, p x
  | [], _, h, _ => h
  | d :: ds, F, h, hd => allD ds _ (all1 h (hd d (List.mem_cons_self ..))) fun d' hd' => hd d' (List.mem_cons_of_mem _ hd')
theorem allB {p : Eff × List Str → Prop} (n : Nat) (ds : List (Str × Eff)) (h0 : p (idE n, [])) (hs : ∀ e r d, p (e, r) → d ∈ ds → p (thn e d.2, r ++ [d.1])) : ∀ k, ∀ x ∈ bf n ds k, p x
  | 0 => fun x hx => by rw [List.mem_singleton.mp hx]; exact h0
  | k + 1 => by
    have ih := allB n ds h0 hs k
    show ∀ x ∈ bfs ds k (bf n ds k), p x
    unfold bfs
    split
    · rename_i e r he
      exact allD ds _ ih fun d hd => hs e r d (ih _ (List.mem_of_getElem? he)) hd
    · exact ih
theorem len_row (n : Nat) (ds : List (Str × Eff)) : ∀ k, ∀ q ∈ bf n ds k, q.2.length ≤ k
  | 0 => fun q hq => by rw [List.mem_singleton.mp hq]; exact Nat.le_refl 0
  | k + 1 => by
    have ih := len_row n ds k
    show ∀ q ∈ bfs ds k (bf n ds k), q.2.length ≤ k + 1
    unfold bfs
    split
    · rename_i e r he
      refine allD (p := fun q => q.2.length ≤ k + 1) ds _ (fun q hq => Nat.le_succ_of_le (ih q hq)) fun d _ => ?_
      have := ih _ (List.mem_of_getElem? he)
      show (r ++ [d.1]).length ≤ k + 1
      rw [List.length_append]
      exact Nat.add_le_add_right this 1
    · exact fun q hq => Nat.le_succ_of_le (ih q hq)
/-- what was expanded is closed -/
theorem in1 (e : Eff) (r : List Str) (F : Lst) (d : Str × Eff) : thn e d.2 ∈ fsts (exp1 e r F d) := by
  unfold exp1
  split
  · assumption
  · unfold fsts
    rw [List.map_append]
    exact List.mem_append_right _ (by simp)
theorem inD (e : Eff) (r : List Str) : ∀ (ds : List (Str × Eff)) (F : Lst) (d : Str × Eff), d ∈ ds → thn e d.2 ∈ fsts (expd ds e r F)
  | d' :: ds, F, d, h => by
    rcases List.mem_cons.mp h with rfl | h
    · exact (growD e r ds _).sub (in1 e r F d)
    · exact inD e r ds _ d h
theorem closeB (n : Nat) (ds : List (Str × Eff)) : ∀ (k i : Nat) (e : Eff) (r : List Str), i < k → (bf n ds k)[i]? = some (e, r) → ∀ d ∈ ds, thn e d.2 ∈ fsts (bf n ds k)
  | 0, i, _, _, h, _, _, _ => absurd h (Nat.not_lt_zero i)
  | k + 1, i, e, r, h, he, d, hd => by
    by_cases hik : i < (bf n ds k).length
    · obtain ⟨x, hx⟩ : ∃ x, (bf n ds k)[i]? = some x := ⟨_, List.getElem?_eq_getElem hik⟩
      have hx2 := (growS ds k (bf n ds k)).at hx
      have hxe : x = (e, r) := by
        have h1 : (bf n ds (k + 1))[i]? = some x := hx2
        rw [he] at h1
        exact (Option.some.inj h1).symm
      subst hxe
      by_cases hk : i < k
      · exact (growS ds k (bf n ds k)).sub (closeB n ds k i e r hk hx d hd)
      · have : i = k := by omega
        subst this
        show thn e d.2 ∈ fsts (bfs ds i (bf n ds i))
        unfold bfs
        rw [hx]
        exact inD e r ds _ d hd
    · -- the list had ended
      have hlen : (bf n ds k).length ≤ k := by omega
      have hn : (bf n ds k)[k]? = none := List.getElem?_eq_none hlen
      have : bf n ds (k + 1) = bf n ds k := by
        show bfs ds k (bf n ds k) = _
        unfold bfs
        rw [hn]
      rw [this] at he
      have := (List.getElem?_eq_some_iff.mp he).1
      exact absurd this hik
theorem bf_stop {n : Nat} {ds : List (Str × Eff)} {k : Nat} (h : (bf n ds k).length ≤ k) : ∀ j, bf n ds (k + j) = bf n ds k
  | 0 => rfl
  | j + 1 => by
    have ih := bf_stop h j
    show bfs ds (k + j) (bf n ds (k + j)) = _
    rw [ih]
    unfold bfs
    rw [List.getElem?_eq_none (by omega)]
/-- the whole set, closed -/
theorem bf_closed {n : Nat} {ds : List (Str × Eff)} {k : Nat} (h : (bf n ds k).length ≤ k) : ∀ e ∈ fsts (bf n ds k), ∀ d ∈ ds, thn e d.2 ∈ fsts (bf n ds k) := by
  intro e he d hd
  obtain ⟨⟨e', r⟩, hx, rfl⟩ := List.mem_map.mp he
  obtain ⟨i, hi⟩ := List.mem_iff_getElem?.mp hx
  exact closeB n ds k i e' r (by have := (List.getElem?_eq_some_iff.mp hi).1; omega) hi d hd
end EO
end
section
set_option Elab.async false
set_option linter.all false
set_option maxRecDepth 100000
set_option maxHeartbeats 1000000
/-! all effects -/
namespace EO
open PySem PySem.Spec PyProof.Rows L2
/-- all_effects as it stands: a default and a keyword-only parameter -/
structure DfnA (K : PySem.W.Frag) (mg : Str → Option Value) (x : Str) (st : Stmt) : Prop where
  ex : ∃ (f : Addr) (oc : Value) (od : Option Addr) (kV doc pm : Value) (an : Option Addr) (cdv ct : Value) (osl : Array (Option Value)),
    K.lookup f = some ⟨oc, od, .func (PySem.W.fnOf x x (defArgs st) (defBody st) (defScope st) .none kV doc pm an cdv ct), osl⟩ ∧ PySem.W.codeIn K cdv x = true ∧ mg x = some (.ref f) ∧ PySem.W.keepIn K (.ref f) = true
structure FnA (P : Program) (w : World) (K : PySem.W.Frag) (mg : Str → Option Value) (base : Heap) (k : Nat) (x : Str) (n : Nat) (ks : List Str) (gV : List V → List V → List V) (sp : Sp) : Prop where
  ex : ∃ (f : Addr) (fd : FuncData) (ps : List Str) (g : List Value → List Value → List Value), FnOk P w K mg base (L2.CX P w) k f fd ps sp ∧ mg x = some (.ref f) ∧ PySem.W.keepIn K (.ref f) = true ∧ KBn K fd ps n ks g gV
/-! keys -/
def keyE (e : Eff) : List Key := e.map fun x : Nat => (Sum.inl (x : Int) : Key)
theorem keyE_vns (e : Eff) : (keyE e).map kV = vns e := by
  unfold keyE vns
  rw [List.map_map]
  rfl
theorem keyE_inj {e g : Eff} (h : keyE e = keyE g) : e = g := by
  have := congrArg (List.map fun k : Key => match k with
    | .inl i => i.toNat
    | .inr _ => 0) h
  unfold keyE at this
  rw [List.map_map, List.map_map] at this
  have e0 : ((fun k : Key => match k with
    | .inl i => i.toNat
    | .inr _ => 0) ∘ fun x : Nat => (Sum.inl (x : Int) : Key)) = id := by
    funext x
    show ((x : Int)).toNat = x
    omega
  rw [e0, List.map_id, List.map_id] at this
  exact this
/-- the dict of what is known -/
def Kd (H : Hp) (kd : Addr) (F : Lst) : Prop := ∃ kvs : List (List Key × V), H kd = some (.dT kvs) ∧ kvs.length ≤ F.length ∧ ∀ e : Eff, (valV kvs (keyE e)).isSome = decide (e ∈ fsts F)
theorem Kd.sm {H H' : Hp} {kd : Addr} {F : Lst} (h : Kd H kd F) (s : Same H H') : Kd H' kd F := let ⟨kvs, a, b⟩ := h; ⟨kvs, s _ _ a, b⟩
theorem fsts_snoc (F : Lst) (q : Eff × List Str) : fsts (F ++ [q]) = fsts F ++ [q.1] := by
  unfold fsts
  rw [List.map_append]
  rfl
theorem len_putK {κ : Type} [DecidableEq κ] (kvs : List (κ × V)) (k : κ) (v : V) : (putK kvs k v).length ≤ kvs.length + 1 := by
  unfold putK
  split
  · rw [List.length_map]; omega
  · rw [List.length_append]; exact Nat.le_refl _
section
variable {P : Program} {w : World} {K : PySem.W.Frag} {mg : Str → Option Value} {base : Heap} {CM CN CS : Addr}
def spAll (CM CS : Addr) : Sp := fun vs H Q E => ∃ n ds mv, vs = [mv, vn 300] ∧ Mc CM H mv n ds ∧ DG n ds ∧
  (∀ H' v N a xs, (bf n ds N).length = N → N ≤ 300 → v = .ref a → H' a = some (.tup xs) → Al (Prr H') xs (bf n ds N) → Same H H' → Q v H') ∧
  ((∃ k, 300 < (bf n ds k).length) → ∀ H' d, Same H H' → H' d = none → E (.ref CS) (some d) (upd H' d (.xd [("word", .str "effects")])))
abbrev sc_all_effectsN : List Str := ["machine", "most", "nothing", "found", "known", "at", "effect", "row", "name", "images", "further"]
theorem sc_all_effects : FnScope sc_all_effectsN ["machine", "most"] (defScope (topS 38)) := ⟨rfl, rfl, rfl, by decide +kernel, rfl, by decide +kernel, by decide +kernel⟩
theorem ok_all_effects (D : DfnA K mg "all_effects" (topS 38)) (T : Txt K mg CM) (TE : TxE K P mg CN CS) (M : MxF K CM) (c_effect_then : Fn P w K mg base 1 "effect_then" spThen) : FnA P w K mg base 2 "all_effects" 1 ["most"] (fun a b => a ++ b) (spAll CM CS) := by
  obtain ⟨fS, xS⟩ := TE.xS
  obtain ⟨f, oc, od, kwV, doc, pm, an, cdv, ct, osl, lk, hcd, m, kp⟩ := D.ex
  refine ⟨⟨f, _, _, fun a b => a ++ b, fn_of lk hcd sc_all_effects (fun vs H Q E h => ?_) (fun A outer s H vs Q E hr h => ?_), m, kp, ⟨fun s us ws X hu hw => match us, hu, ws, hw with
    | [u], _, [v], _ => BindsTo.of_eq rfl, fun r1 r2 => r1.append r2⟩⟩⟩
  · obtain ⟨n, ds, mv, rfl, _⟩ := h
    rfl
  · obtain ⟨n, ds, mv, rfl, ⟨a, dx, fs, t, m, o, tps, rfl, h1, l1, l2, l3, h2, c1, c2, al, h3⟩, hdg, q1, q2⟩ := h
    refine ⟨_, (pss_cons (ps_if (pt_cmpR op_lt (pv 1) pe_int (nomark _))
 (pss_one (ps_raise rfl (takes_of rfl rfl rfl rfl) (pmk_x xS (hr.mono (by first | decide | omega)) rfl TE.mS TE.sup pe_str)))
 pss_nil)
 (pss_cons (ps_set (i := 2) sc_all_effects.nd rfl (Or.inl rfl) (pe_tupRg rfl rfl T.tuple (prg_1 rfl T.range (pe_fld (pv 0) rfl))))
 (pss_cons (ps_par3 (i := 3) (j := 4) (l := 5) rfl sc_all_effects.nd rfl rfl rfl (by decide) (by decide) (by decide) rfl rfl rfl (pa_cons (pe_lst (pa_cons (pe_tup (pa_cons (pv 2) (pa_cons (pe_tup pa_nil) pa_nil))) pa_nil)) (pa_cons (pe_dispT (hu_of hr) (pv 2) pe_int) (pa_cons pe_int pa_nil))) (by rfl))
 (pss_cons (ps_while (passes_of rfl) (pt_cmpR op_lt (pv 5) (pe_callB call_len_seq rfl T.len PySem.boot_len (pa_cons (pv 3) pa_nil)) (nomark _))
 (pss_cons (ps_asg (pe_ix ix_list (pv 3) (pv 5) (fun _ _ => rfl)) (pg_tup (n := 2) rfl (pgs_cons (pg_name (i := 6) sc_all_effects.nd rfl (Or.inl rfl)) (pgs_cons (pg_name (i := 7) sc_all_effects.nd rfl (Or.inl rfl)) pgs_nil))))
 (pss_cons (ps_for (passes_of rfl) rfl (pi_tup (pe_fld (pv 0) rfl)) (pg_tup (n := 2) rfl (pgs_cons (pg_name (i := 8) sc_all_effects.nd rfl (Or.inl rfl)) (pgs_cons (pg_name (i := 9) sc_all_effects.nd rfl (Or.inl rfl)) pgs_nil)))
 (pss_cons (ps_set (i := 10) sc_all_effects.nd rfl (Or.inl rfl) (pe_f c_effect_then hr (by first | decide | omega) rfl (pa_cons (pv 6) (pa_cons (pv 9) pa_nil))))
 (pss_one (ps_if (pt_cmp (pc_dnotin (hu_of hr) (pv 10) (pv 4)))
 (pss_cons (ps_if (pt_cmpR op_eq (pe_callB call_len_seq rfl T.len PySem.boot_len (pa_cons (pv 3) pa_nil)) (pv 1) (nomark _))
 (pss_one (ps_raise rfl (takes_of rfl rfl rfl rfl) (pmk_x xS (hr.mono (by first | decide | omega)) rfl TE.mS TE.sup pe_str)))
 pss_nil)
 (pss_cons (ps_dput (hu_of hr) (pv 4) (pv 10) (pe_callB call_len_seq rfl T.len PySem.boot_len (pa_cons (pv 3) pa_nil)) rfl)
 (pss_one (ps_expr (pe_bm PySem.F.plainAttrs_list PySem.F.slot_list_append PySem.F.type_list_append mt_append (pv 3) (pa_cons (pe_tup (pa_cons (pv 10) (pa_cons (pe_op op_catA (pv 7) (pe_tup (pa_cons (pv 8) pa_nil))) pa_nil))) pa_nil))))))
 pss_nil))))
 (pss_one (ps_aug (i := 5) sc_all_effects.nd rfl (Or.inl rfl) pe_int ip_add)))))
 (pss_one (ps_ret (pe_callTy call_tuple_of rfl T.tuple PyProof.Rows.Boot.«tuple» (pa_cons (pv 3) pa_nil)))))))), ?_⟩
    have hn6 := hdg.hi
    refine ⟨_, rfl, 300, 1, rfl, rfl, false, rfl, ?_⟩
    refine ⟨.ref a, rfl, a, CM, dx, fs, vn n, rfl, h1, T.cl, M.nS, l3, n, rfl, RgOk.of_le (by decide) (by omega) (by decide) (by omega), fun ni hni => ?_⟩
    rw [rg_id]
    have smn := same_new (o := HO.tup (vns (idE n))) hni
    refine ⟨.ref ni, rfl, Nat.zero_le _, fun r0 hr0 => ⟨by show 2 ≤ sizeLine; decide, fun pr hpr => ⟨by show 1 ≤ sizeLine; decide, fun p hp kd hkd => ?_⟩⟩⟩
    have sm0 := same_new (o := HO.tup []) hr0
    have smr := same_new (o := HO.tup [V.ref ni, .ref r0]) hpr
    have smp := same_new (o := HO.lst [V.ref pr]) hp
    have smA := ((smn.trans sm0).trans smr).trans smp
    have smk := same_new (o := HO.dT []) hkd
    have npk : p ≠ kd := fun z => by rw [← z, upd_same] at hkd; cases hkd
    have hp0 : H p = none := none_back ((smn.trans sm0).trans smr) hp
    have hkd0 : H kd = none := none_back smA hkd
    refine ⟨.ref ni, rfl, ni, keyE (idE n), rfl, ?_, upd_same, _, _, _, rfl, ?_⟩
    · rw [keyE_vns]
      exact smk _ _ (smp _ _ (smr _ _ (sm0 _ _ upd_same)))
    generalize hHA : upd (upd (upd (upd (upd (upd H ni (.tup (vns (idE n)))) r0 (.tup [])) pr (.tup [.ref ni, .ref r0])) p (.lst [.ref pr])) kd (.dT [])) kd (.dT [(keyE (idE n), .int 0)]) = HA
    have smHA : Same H HA := by rw [← hHA]; exact same_at (smA.trans smk) hkd0
    have eHA : ∀ c o, upd (upd (upd (upd H ni (.tup (vns (idE n)))) r0 (.tup [])) pr (.tup [.ref ni, .ref r0])) p (.lst [.ref pr]) c = some o → HA c = some o := fun c o h => by
      rw [← hHA, upd_ne (ne_of_none h hkd), upd_ne (ne_of_none h hkd)]
      exact h
    have idn : thn (idE n) (idE n) = idE n := id_thn (ok_id n)
    have hw : ∀ j, ∀ q ∈ bf n ds j, Ok n q.1 := fun j => allB (p := fun q => Ok n q.1) n ds (ok_id n) (fun e r d h hd => ok_thn h (hdg.ok d hd)) j
    refine while_by (fun σ H' => ∃ k x6 x7 x8 x9 x10 xs, σ = [some (.ref a), some (vn 300), some (.ref ni), some (.ref p), some (.ref kd), some (vn k), x6, x7, x8, x9, x10] ∧ Same H H' ∧ H' p = some (.lst xs) ∧ Al (Prr H') xs (bf n ds k) ∧ Kd H' kd (bf n ds k) ∧ (bf n ds k).length ≤ 300 ∧ k ≤ (bf n ds k).length)
      (fun σ _ => 301 - jOf 5 σ) ⟨0, _, _, _, _, _, [.ref pr], rfl, smHA, eHA _ _ upd_same, ?_, ?_, by show 1 ≤ 300; decide, Nat.zero_le _⟩ ?_ ?_
    · refine Al.cons ⟨pr, .ref ni, .ref r0, rfl, eHA _ _ (smp _ _ upd_same), ⟨ni, rfl, ?_⟩, ⟨r0, rfl, ?_⟩⟩ Al.nil
      · exact eHA _ _ (smp _ _ (smr _ _ (sm0 _ _ upd_same)))
      · exact eHA _ _ (smp _ _ (smr _ _ upd_same))
    · refine ⟨[(keyE (idE n), .int 0)], by rw [← hHA]; exact upd_same, by show 1 ≤ 1; decide, fun e => ?_⟩
      by_cases he : e = idE n
      · subst he
        rw [valV_pos rfl]
        simp [fsts, bf]
      · rw [valV_neg (fun q => he (keyE_inj q).symm), valV_nil]
        simp [fsts, bf, he]
    · rintro σ H1 ⟨k, x6, x7, x8, x9, x10, xs, rfl, sm, e1, hal, hkd1, hl, hk⟩
      refine ⟨vn k, rfl, .ref p, rfl, p, xs, rfl, .inl (SqL.of e1), (k : Int), _, rfl, rfl, _, rfl, ite2 (fun z => ?_) (fun z => ?_)⟩
      · have hkl : k < xs.length := by
          have := of_decide_eq_true z
          omega
        obtain ⟨⟨e, r⟩, her⟩ : ∃ q, (bf n ds k)[k]? = some q := ⟨_, List.getElem?_eq_getElem (by rw [← hal.1]; exact hkl)⟩
        obtain ⟨v, hv, ⟨t1, xe, yr, rfl, g1, g2, g3⟩⟩ := hal.at her
        have oke : Ok n e := hw k _ (List.mem_of_getElem? her)
        have eS : bf n ds (k + 1) = expd ds e r (bf n ds k) := by
          show bfs ds k (bf n ds k) = _
          unfold bfs
          rw [her]
        refine ⟨.ref p, rfl, vn k, rfl, p, xs, (k : Int), _, rfl, rfl, SqL.of e1, atI_nat hv, t1, _, rfl, SqT.of g1, rfl, _, _, rfl, _, _, rfl, rfl, ?_⟩
        have sqt : ∀ H', Same H H' → SqT K H' t (tps.map V.ref) := fun H' s => .inl (.inr ⟨o, s _ _ h2⟩)
        refine ⟨.ref a, rfl, a, CM, dx, fs, .ref t, rfl, sm _ _ h1, T.cl, M.nD, l1, t, rfl, ⟨_, sqt _ sm⟩, for_it walk_tup (fun j σ H' => ∃ x8 x9 x10 xs, σ = [some (.ref a), some (vn 300), some (.ref ni), some (.ref p), some (.ref kd), some (vn k), some xe, some yr, x8, x9, x10] ∧ Same H H' ∧ KT H1 H' ∧ H' p = some (.lst xs) ∧ Al (Prr H') xs (expd (ds.take j) e r (bf n ds k)) ∧
            Kd H' kd (expd (ds.take j) e r (bf n ds k)) ∧ (expd (ds.take j) e r (bf n ds k)).length ≤ 300) ⟨_, _, _, xs, rfl, sm, KT.refl _, e1, hal, hkd1, hl⟩ (fun i σ H' _ ⟨_, _, _, _, _, s, _⟩ => sqt _ s) ?_ ?_⟩
        · rintro j y σ H2 H3 hj ⟨x8, x9, x10, xs, rfl, sm2, kt2, e2, hal2, hkd2, hl2⟩ ⟨rfl, hy⟩
          obtain ⟨d, hd, dp, yv, rfl, d1, ⟨yy, rfl, d2⟩⟩ := al.at' hy
          have okd := hdg.ok d (List.mem_of_getElem? hd)
          have stp : expd (ds.take (j + 1)) e r (bf n ds k) = exp1 e r (expd (ds.take j) e r (bf n ds k)) d := by
            rw [List.take_add_one, hd]
            exact expd_snoc _ d e r _
          refine ⟨dp, _, rfl, SqT.of (sm2 _ _ d1), rfl, _, _, rfl, _, _, rfl, rfl, ?_⟩
          refine ⟨xe, rfl, .ref yy, rfl, xe, .ref yy, e, d.2, rfl, g2.kt kt2, ⟨yy, rfl, sm2 _ _ d2⟩, fun x hx => by rw [okd.len]; exact oke.lt x hx, by rw [oke.len]; omega, fun H4 fv sm4 hf => ?_⟩
          obtain ⟨fa, rfl, hfa⟩ := hf
          have sm24 := sm2.trans sm4
          obtain ⟨kvs, k1, k2, k3⟩ := hkd2.sm sm4
          have kfa : H4 fa = some (.tup ((keyE (thn e d.2)).map kV)) := by rw [keyE_vns]; exact hfa
          have e4 := sm4 _ _ e2
          have hal4 := hal2.mono fun _ _ h => h.kt (kt sm4)
          have kt4 := kt2.trans (kt sm4)
          refine ⟨.ref fa, rfl, .ref kd, rfl, kd, _, rfl, DGet.t k1 kfa, _, rfl, ?_⟩
          rw [k3]
          refine ite2 (fun z2 => ?_) (fun z2 => ?_)
          · have hnew : thn e d.2 ∉ fsts (expd (ds.take j) e r (bf n ds k)) := by simpa using z2
            have eN : exp1 e r (expd (ds.take j) e r (bf n ds k)) d = expd (ds.take j) e r (bf n ds k) ++ [(thn e d.2, r ++ [d.1])] := if_neg hnew
            refine ⟨.ref p, rfl, p, xs, rfl, .inl (SqL.of e4), vn 300, rfl, rfl, _, rfl, ite2 (fun z3 => ?_) (fun z3 => ?_)⟩
            · have h300 : xs.length = 300 := by
                have := V.int.inj (of_decide_eq_true z3)
                omega
              refine fun dd hdd => q2 ⟨k + 1, ?_⟩ _ dd sm24 hdd
              have g := growD e r (ds.drop (j + 1)) (expd (ds.take (j + 1)) e r (bf n ds k))
              have ea : expd (ds.drop (j + 1)) e r (expd (ds.take (j + 1)) e r (bf n ds k)) = bf n ds (k + 1) := by
                rw [eS]
                unfold expd
                rw [← List.foldl_append, List.take_append_drop]
              rw [ea] at g
              have := g.len
              rw [stp, eN, List.length_append, ← hal2.1, h300] at this
              exact this
            · have h300 : xs.length < 300 := by
                have : xs.length ≠ 300 := fun q => z3 (decide_eq_true (by rw [q]; rfl))
                have := hal2.1
                omega
              refine ⟨.ref p, rfl, p, xs, rfl, .inl (SqL.of e4), .ref kd, rfl, .ref fa, rfl, kd, _, rfl, DPut.t k1 kfa (szl (by have := hal2.1; omega)), ?_⟩
              generalize hH5 : upd H4 kd (.dT (putK kvs (keyE (thn e d.2)) (.int xs.length))) = H5
              have kt5 : KT H4 H5 := by rw [← hH5]; exact kt_dT k1
              have sm5 : Same H H5 := by rw [← hH5]; exact same_at sm24 hkd0
              have e5 : H5 p = some (.lst xs) := by rw [← hH5, upd_ne npk]; exact e4
              have k5 : H5 kd = some (.dT (putK kvs (keyE (thn e d.2)) (.int xs.length))) := by rw [← hH5]; exact upd_same
              obtain ⟨ra, rfl, hra⟩ := g3.kt (kt4.trans kt5)
              refine ⟨.ref p, rfl, .inl ⟨rfl, _, SqL.of e5⟩, .ref fa, rfl, .ref ra, rfl, .str d.1, rfl, by show 1 ≤ sizeLine; decide, fun nt hnt => ?_⟩
              have smt := same_new (o := HO.tup [V.str d.1]) hnt
              have hr300 : r.length ≤ 1000 := by
                have h8 : r.length ≤ k := len_row n ds k _ (List.mem_of_getElem? her)
                omega
              have cont : ∀ H6 rv, Same (upd H5 nt (.tup [.str d.1])) H6 → Rw H6 rv (r ++ [d.1]) → 2 ≤ sizeLine ∧ ∀ q, H6 q = none → rAppend (.ref p) [.ref q] (upd H6 q (.tup [.ref fa, rv])) fun x H7 => ∃ x8 x9 x10 xs, [some (V.ref a), some (vn 300), some (V.ref ni), some (V.ref p), some (V.ref kd), some (vn k), some xe, some (V.ref ra), some (V.str d.1), some (V.ref yy), some (V.ref fa)] = [some (.ref a), some (vn 300), some (.ref ni), some (.ref p), some (.ref kd), some (vn k), some xe, some (.ref ra), x8, x9, x10] ∧ Same H H7 ∧ KT H1 H7 ∧ H7 p = some (.lst xs) ∧ Al (Prr H7) xs (expd (ds.take (j + 1)) e r (bf n ds k)) ∧
                  Kd H7 kd (expd (ds.take (j + 1)) e r (bf n ds k)) ∧ (expd (ds.take (j + 1)) e r (bf n ds k)).length ≤ 300 := by
                intro H6 rv sm6 hrv
                refine ⟨by decide, fun q hq => ?_⟩
                have smq := same_new (o := HO.tup [V.ref fa, rv]) hq
                have s57 := (smt.trans sm6).trans smq
                have e7 := s57 _ _ e5
                have k7 := kt_lst (o := HO.lst (xs ++ [.ref q])) e7
                have ktall := (kt5.trans (kt s57)).trans k7
                refine ⟨p, xs, .ref q, rfl, rfl, e7, szl (by omega), _, _, _, xs ++ [.ref q], rfl, same_at (sm5.trans s57) hp0, kt4.trans ktall, upd_same, ?_, ?_, ?_⟩
                · rw [stp, eN]
                  exact Al.snoc (hal4.mono fun _ _ h => h.kt ktall) ⟨q, .ref fa, rv, rfl, k7 _ _ upd_same, ⟨fa, rfl, ktall _ _ hfa⟩, (hrv.sm smq).kt k7⟩
                · refine ⟨putK kvs (keyE (thn e d.2)) (.int xs.length), by rw [upd_ne npk.symm]; exact s57 _ _ k5, ?_, fun g => ?_⟩
                  · rw [stp, eN, List.length_append]
                    exact Nat.le_trans (len_putK _ _ _) (Nat.add_le_add_right k2 1)
                  · rw [valV_put, stp, eN]
                    by_cases hg : g = thn e d.2
                    · subst hg
                      rw [if_pos rfl]
                      simp [fsts]
                    · rw [if_neg (fun q => hg (keyE_inj q)), k3, fsts_snoc]
                      simp [hg]
                · rw [stp, eN, List.length_append, ← hal2.1]
                  show xs.length + 1 ≤ 300
                  omega
              refine ⟨ra, nt, vss r, [.str d.1], rfl, rfl, SqT.of (smt _ _ hra), SqT.of upd_same, sz (by rw [List.length_map]; show r.length + 1 ≤ _; omega), fun hr0 => ?_, (fun _ z => nomatch z), fun hr0 _ q hq => ?_⟩
              · refine cont _ _ (Same.refl _) ⟨nt, rfl, ?_⟩
                rw [upd_same]
                have : r = [] := List.map_eq_nil_iff.mp hr0
                rw [this]; rfl
              · refine cont _ _ (same_new hq) ⟨q, rfl, ?_⟩
                rw [upd_same, vss, vss, List.map_append]; rfl
          · have hold : thn e d.2 ∈ fsts (expd (ds.take j) e r (bf n ds k)) := by simpa using z2
            have eN : exp1 e r (expd (ds.take j) e r (bf n ds k)) d = expd (ds.take j) e r (bf n ds k) := if_pos hold
            refine ⟨_, _, _, xs, rfl, sm24, kt4, e4, ?_, ?_, ?_⟩
            · rw [stp, eN]; exact hal4
            · rw [stp, eN]; exact ⟨kvs, k1, k2, k3⟩
            · rw [stp, eN]; exact hl2
        · rintro σ H2 ⟨x8, x9, x10, xs2, rfl, sm2, kt2, e2, hal2, hkd2, hl2⟩
          rw [al.1, List.take_length, ← eS] at hal2 hkd2 hl2
          refine ⟨vn k, rfl, (k : Int), 1, rfl, rfl, ⟨k + 1, _, _, _, _, _, xs2, rfl, sm2, e2, hal2, hkd2, hl2, ?_⟩, ?_⟩
          · have := (growS ds k (bf n ds k)).len
            have h9 : (bf n ds (k + 1)).length = (bfs ds k (bf n ds k)).length := rfl
            rw [hal.1] at hkl
            omega
          · show 301 - ((k : Int) + 1).toNat < 301 - k
            have := hal.1
            omega
      · have hkl : (bf n ds k).length = k := by
          have : ¬ ((k : Int) < (xs.length : Int)) := fun q => z (decide_eq_true q)
          have := hal.1
          omega
        refine ⟨.ref p, rfl, p, xs, rfl, .inl ⟨SqL.of e1, fun q hq => ?_⟩⟩
        have smq := same_new (o := HO.tup xs) hq
        exact q1 _ _ k q xs hkl (by omega) rfl upd_same (hal.mono fun _ _ h => h.kt (kt smq)) (sm.trans smq)
    · rintro σ H Q Q' hq ⟨x, e1, y, e2, p, ys, e3, sq, i, j, e4, e5, k, e6, q⟩
      exact ⟨x, e1, y, e2, p, ys, e3, sq, i, j, e4, e5, k, e6, hq _ _ q⟩
end
end EO
end
section
set_option Elab.async false
set_option linter.all false
set_option maxRecDepth 100000
set_option maxHeartbeats 1000000
/-! the first breach of a machine -/
namespace EO
open PySem PySem.Spec PyProof.Rows L2
def brk (e g : Eff) : Bool := decide (thn e g = thn g e) != decide (stl e = stl g)
/-- no breach among the pairs before (i, j) -/
def NoBr (F : Lst) (j i : Nat) : Prop := ∀ (i' j' : Nat) (e g : Eff) (r q : List Str), 1 ≤ i' → i' < j' → (j' < j ∨ (j' = j ∧ i' < i)) → F[i']? = some (e, r) → F[j']? = some (g, q) → brk e g = false
abbrev Br := List Str × List Str × Option Nat
def FBr (F : Lst) : Option Br → Prop
  | none => NoBr F F.length 0
  | some b => ∃ i j e g, 1 ≤ i ∧ i < j ∧ F[i]? = some (e, b.1) ∧ F[j]? = some (g, b.2.1) ∧ brk e g = true ∧ b.2.2 = unl (thn e g) (thn g e) ∧ NoBr F j i
def BrR (H : Hp) (v : V) : Option Br → Prop
  | none => v = .non
  | some b => ∃ a x y, v = .ref a ∧ H a = some (.tup [x, y, vo b.2.2]) ∧ Rw H x b.1 ∧ Rw H y b.2.1
theorem BrR.kt {H H' : Hp} {v : V} : ∀ {b : Option Br}, BrR H v b → KT H H' → BrR H' v b
  | none, h, _ => h
  | some _, ⟨a, x, y, e, h, p, q⟩, k => ⟨a, x, y, e, k _ _ h, p.kt k, q.kt k⟩
theorem unl_none {n : Nat} {e g : Eff} (oe : Ok n e) (og : Ok n g) : (unl e g = none) ↔ e = g := by
  unfold unl
  rw [List.find?_eq_none]
  constructor
  · intro h
    refine oe.ext og fun x hx => ?_
    have := h x (List.mem_range.mpr (by rw [oe.len]; exact hx))
    simp at this
    exact this.symm
  · rintro rfl x _
    simp
theorem NoBr.next {F : Lst} {j i : Nat} (h : NoBr F j i) (hb : ∀ e g r q, F[i]? = some (e, r) → F[j]? = some (g, q) → brk e g = false) : NoBr F j (i + 1) := by
  intro i' j' e g r q h1 h2 h3 h4 h5
  rcases h3 with h3 | ⟨h3, h6⟩
  · exact h i' j' e g r q h1 h2 (.inl h3) h4 h5
  · by_cases hi : i' = i
    · subst hi
      subst h3
      exact hb e g r q h4 h5
    · exact h i' j' e g r q h1 h2 (.inr ⟨h3, by omega⟩) h4 h5
theorem NoBr.row {F : Lst} {j : Nat} (h : NoBr F j j) : NoBr F (j + 1) 1 := by
  intro i' j' e g r q h1 h2 h3 h4 h5
  by_cases hj : j' = j
  · exact h i' j' e g r q h1 h2 (.inr ⟨hj, by omega⟩) h4 h5
  · exact h i' j' e g r q h1 h2 (.inl (by omega)) h4 h5
section
variable {P : Program} {w : World} {K : PySem.W.Frag} {mg : Str → Option Value} {base : Heap} {CM CN CS : Addr}
def spHB (CM CS : Addr) : Sp := fun vs H Q E => ∃ n ds mv, vs = [mv] ∧ Mc CM H mv n ds ∧ DG n ds ∧
  (∀ H' v N b, (bf n ds N).length = N → N ≤ 300 → FBr (bf n ds N) b → BrR H' v b → Same H H' → Q v H') ∧
  ((∃ k, 300 < (bf n ds k).length) → ∀ H' d, Same H H' → H' d = none → E (.ref CS) (some d) (upd H' d (.xd [("word", .str "effects")])))
abbrev sc_home_breachN : List Str := ["machine", "effects", "stills", "later", "earlier", "one", "other", "at", "effect", "row"]
theorem sc_home_breach : FnScope sc_home_breachN ["machine"] (defScope (topS 42)) := ⟨rfl, rfl, rfl, by decide +kernel, rfl, by decide +kernel, by decide +kernel⟩
theorem ok_home_breach (D : Dfn K mg "home_breach" (topS 42)) (T : Txt K mg CM) (c_all : FnA P w K mg base 2 "all_effects" 1 ["most"] (fun a b => a ++ b) (spAll CM CS)) (c_still_states : Fn P w K mg base 1 "still_states" spStT) (c_first_unlike : Fn P w K mg base 1 "first_unlike" spUnl)
    (c_effect_then : Fn P w K mg base 1 "effect_then" spThen) : FnK P w K mg base (L2.CX P w) 3 "home_breach" (topS 42) ["machine"] (spHB CM CS) := by
  obtain ⟨fA, fdA, psA, gA, FA, mA, kpA, kbA⟩ := c_all.ex
  refine fn_byXK D sc_home_breach (fun vs H Q E h => ?_) (fun f cdv A outer s H vs Q E hr h => ?_)
  · obtain ⟨n, ds, mv, rfl, _⟩ := h
    rfl
  · obtain ⟨n, ds, mv, rfl, hmc, hdg, q1, q2⟩ := h
    refine ⟨_, (pss_cons (ps_set (i := 1) sc_home_breach.nd rfl (Or.inl rfl) (pe_callN FA (hr.mono (by first | decide | omega)) rfl mA kpA kbA (passes_call (takes_of rfl rfl rfl rfl) (fun cls d σ H h => h)) (pa_cons (pv 0) pa_nil) (pk_cons (pe_k rfl T.MOST_BREACHED) pk_nil)))
 (pss_cons (ps_setLc (i := 2) (own := [("effect", 8), ("row", 9)]) rfl sc_home_breach.nd rfl rfl (sw_true rfl rfl rfl (by decide +kernel)) (pi_tup (pv 1)) (blkOk_by (N := sc_home_breachN) (sc := defScope (topS 42)) (by decide +kernel)) (fun _ _ _ _ _ => (pg_tupC (K := K) (n := 2) rfl rfl (pgs_cons (pg_name (i := 8) sc_home_breach.nd rfl (Or.inl rfl)) (pgs_cons (pg_name (i := 9) sc_home_breach.nd rfl (Or.inl rfl)) pgs_nil)))) (fun _ _ _ _ _ => pts_nil) (fun _ _ _ _ _ => (pe_f c_still_states hr (by first | decide | omega) rfl (pa_cons (pv 8) pa_nil))))
 (pss_cons (ps_for (passes_of rfl) rfl (pi_range2 rfl T.range (pa_cons pe_int (pa_cons (pe_callB call_len_seq rfl T.len PySem.boot_len (pa_cons (pv 1) pa_nil)) pa_nil))) (pg_name (i := 3) sc_home_breach.nd rfl (Or.inl rfl))
 (pss_one (ps_for (passes_of rfl) rfl (pi_range2 rfl T.range (pa_cons pe_int (pa_cons (pv 3) pa_nil))) (pg_name (i := 4) sc_home_breach.nd rfl (Or.inl rfl))
 (pss_cons (ps_par (i := 5) (j := 6) rfl sc_home_breach.nd rfl rfl (by decide) rfl rfl (pa_cons (pe_ix ix_tup (pe_ix ix_tup (pv 1) (pv 4) (fun _ _ => rfl)) pe_int (fun _ _ => rfl)) (pa_cons (pe_ix ix_tup (pe_ix ix_tup (pv 1) (pv 3) (fun _ _ => rfl)) pe_int (fun _ _ => rfl)) pa_nil)) (by rfl))
 (pss_cons (ps_set (i := 7) sc_home_breach.nd rfl (Or.inl rfl) (pe_f c_first_unlike hr (by first | decide | omega) rfl (pa_cons (pe_f c_effect_then hr (by first | decide | omega) rfl (pa_cons (pv 5) (pa_cons (pv 6) pa_nil))) (pa_cons (pe_f c_effect_then hr (by first | decide | omega) rfl (pa_cons (pv 6) (pa_cons (pv 5) pa_nil))) pa_nil))))
 (pss_one (ps_if (pt_cmpR op_ne (pe_cmpR op_isN (pv 7) pe_non (nomark _)) (pe_cmpR (op_eqD hr.units) (pe_ix ix_list (pv 2) (pv 4) (fun _ _ => rfl)) (pe_ix ix_list (pv 2) (pv 3) (fun _ _ => rfl)) (nomark _)) (nomark _))
 (pss_one (ps_ret (pe_tup (pa_cons (pe_ix ix_tup (pe_ix ix_tup (pv 1) (pv 4) (fun _ _ => rfl)) pe_int (fun _ _ => rfl)) (pa_cons (pe_ix ix_tup (pe_ix ix_tup (pv 1) (pv 3) (fun _ _ => rfl)) pe_int (fun _ _ => rfl)) (pa_cons (pv 7) pa_nil))))))
 pss_nil)))))))
 (pss_one (ps_ret pe_non))))), ?_⟩
    refine ⟨mv, rfl, rfl, rfl, n, ds, mv, rfl, hmc, hdg, fun H1 v N a xs hN hN3 ev ea hal sm => ?_, q2⟩
    subst ev
    have hok : ∀ q ∈ bf n ds N, Ok n q.1 := allB (p := fun q => Ok n q.1) n ds (ok_id n) (fun e r d h hd => ok_thn h (hdg.ok d hd)) N
    have hn6 := hdg.hi
    have hxl : xs.length = N := by rw [hal.1, hN]
    generalize hF : bf n ds N = F at *
    -- stills
    refine ⟨.ref a, rfl, a, rfl, ⟨_, SqT.of ea⟩, fun Dl hD => lc_it walk_tup (fun i H' => Same H1 H' ∧ ∃ ss, H' Dl = some (.lst ss) ∧ Al (Ef H') ss ((F.map fun q => stl q.1).take i)) ⟨same_new hD, [], upd_same, Al.nil⟩ (fun _ _ _ p => SqT.of (p.1 _ _ ea)) ?_ ?_⟩
    · rintro i y H2 H3 hi ⟨sm2, ss, eD, hss⟩ ⟨rfl, hy⟩
      obtain ⟨q, hq, t, x, yr, rfl, g1, g2, g3⟩ := hal.at' hy
      have okq := hok q (List.mem_of_getElem? hq)
      refine ⟨t, _, rfl, SqT.of (sm2 _ _ g1), rfl, _, _, rfl, _, _, rfl, rfl, rfl, ?_⟩
      refine ⟨x, rfl, x, q.1, rfl, g2.sm sm2, by rw [okq.len]; omega, fun H4 r sm4 hr4 => ⟨ss, sm4 _ _ eD, ?_, same_at (sm2.trans sm4) hD, ss ++ [r], upd_same, ?_⟩⟩
      · rw [hss.1, List.length_take]
        exact szl (by rw [List.length_map]; omega)
      · rw [List.take_add_one, List.getElem?_map, hq]
        have k6 := kt_lst (o := HO.lst (ss ++ [r])) (sm4 _ _ eD)
        exact Al.snoc (hss.mono fun _ _ h => (h.sm sm4).kt k6) (hr4.kt k6)
    · rintro H2 ⟨sm2, ss, eD, hss⟩
      have hFl : (F.map fun q => stl q.1).length = xs.length := by rw [List.length_map, hal.1]
      rw [← hFl, List.take_length] at hss
      have hsl : ss.length = F.length := by rw [hss.1, List.length_map]
      have hxF : xs.length = F.length := hal.1
      have smH := sm.trans sm2
      have ea2 := sm2 _ _ ea
      have hal2 := hal.mono fun _ _ h => Prr.kt h (kt sm2)
      refine ⟨.ref a, rfl, a, xs, rfl, .inr (SqT.of ea2), 2, (xs.length : Int), rfl, ⟨by decide, by decide, by omega, by omega⟩, for_it walk_range (fun t σ H' => ∃ x3 x4 x5 x6 x7, σ = [some mv, some (.ref a), some (.ref Dl), x3, x4, x5, x6, x7, none, none] ∧ Same H2 H' ∧ NoBr F (2 + t) 1) ⟨_, _, _, _, _, rfl, Same.refl _, ?_⟩ (fun _ _ _ _ _ => True.intro) ?_ ?_⟩
      · intro i' j' e g r q h1 h2 h3
        omega
      · rintro t y σ H3 H4 ht ⟨x3, x4, x5, x6, x7, rfl, sm3, hnb⟩ ⟨rfl, rfl⟩
        have htF : 2 + t < F.length := by omega
        refine ⟨_, rfl, 1, (2 : Int) + (t : Int), rfl, ⟨by decide, by decide, by omega, by omega⟩, for_it walk_range (fun s σ H' => ∃ x4 x5 x6 x7, σ = [some mv, some (.ref a), some (.ref Dl), some (.int (2 + (t : Int))), x4, x5, x6, x7, none, none] ∧ Same H2 H' ∧ NoBr F (2 + t) (1 + s)) ⟨_, _, _, _, rfl, sm3, hnb⟩ (fun _ _ _ _ _ => True.intro) ?_ ?_⟩
        · rintro s y σ H5 H6 hs ⟨x4, x5, x6, x7, rfl, sm5, hnb2⟩ ⟨rfl, rfl⟩
          have hst : 1 + s < 2 + t := by omega
          obtain ⟨⟨e, r⟩, hi⟩ : ∃ q, F[1 + s]? = some q := ⟨_, List.getElem?_eq_getElem (by omega)⟩
          obtain ⟨⟨g, q⟩, hj⟩ : ∃ q, F[2 + t]? = some q := ⟨_, List.getElem?_eq_getElem htF⟩
          obtain ⟨vi, hvi, ti, xe, yr, rfl, i1, i2, i3⟩ := hal2.at hi
          obtain ⟨vj, hvj, tj, xg, yq, rfl, j1, j2, j3⟩ := hal2.at hj
          obtain ⟨si, hsi, si2⟩ := hss.at (i := 1 + s) (x := stl e) (by rw [List.getElem?_map, hi]; rfl)
          obtain ⟨sj, hsj, sj2⟩ := hss.at (i := 2 + t) (x := stl g) (by rw [List.getElem?_map, hj]; rfl)
          have oke : Ok n e := hok _ (List.mem_of_getElem? hi)
          have okg : Ok n g := hok _ (List.mem_of_getElem? hj)
          have ate : atI xs (1 + (s : Int)) = some (.ref ti) := atI_nat (j := 1 + s) hvi
          have atg : atI xs (2 + (t : Int)) = some (.ref tj) := atI_nat (j := 2 + t) hvj
          have ats : atI ss (1 + (s : Int)) = some si := atI_nat (j := 1 + s) hsi
          have att : atI ss (2 + (t : Int)) = some sj := atI_nat (j := 2 + t) hsj
          have ea5 := sm5 _ _ ea2
          have le : e.length ≤ 1000 := by have := oke.len; omega
          have lg : g.length ≤ 1000 := by have := okg.len; omega
          refine ⟨.ref a, rfl, _, rfl, a, xs, _, _, rfl, rfl, SqT.of ea5, ate, ti, _, 0, xe, rfl, rfl, SqT.of (sm5 _ _ i1), rfl, .ref a, rfl, _, rfl, a, xs, _, _, rfl, rfl, SqT.of ea5, atg, tj, _, 0, xg, rfl, rfl, SqT.of (sm5 _ _ j1), rfl, _, _, rfl, ?_⟩
          refine ⟨xe, rfl, xg, rfl, xe, xg, e, g, rfl, i2.sm sm5, j2.sm sm5, fun x hx => by rw [okg.len]; exact oke.lt x hx, le, fun H7 f1 s7 h7 => ?_⟩
          refine ⟨xg, rfl, xe, rfl, xg, xe, g, e, rfl, (j2.sm sm5).sm s7, (i2.sm sm5).sm s7, fun x hx => by rw [oke.len]; exact okg.lt x hx, lg, fun H8 f2 s8 h8 => ?_⟩
          have okeg := ok_thn oke okg
          have okge := ok_thn okg oke
          refine ⟨f1, f2, thn e g, thn g e, rfl, h7.sm s8, h8, by rw [okeg.len, okge.len], by rw [okeg.len]; omega, fun H9 s9 => ?_⟩
          have smF := sm5.trans (s7.trans (s8.trans s9))
          have eD9 := smF _ _ eD
          have hbk : (!decide (V.bl (decide (vo (unl (thn e g) (thn g e)) = V.non)) = V.bl (PyData.eqv (dE (stl e)) (dE (stl g))))) = brk e g := by
            rw [eqv_dE]
            have h1 : decide (vo (unl (thn e g) (thn g e)) = V.non) = decide (thn e g = thn g e) := by
              rw [decide_eq_decide, ← unl_none okeg okge]
              cases unl (thn e g) (thn g e) with
              | none => simp [vo]
              | some i => simp [vo, vn]
            rw [h1]
            unfold brk
            cases decide (thn e g = thn g e) <;> cases decide (stl e = stl g) <;> rfl
          refine ⟨_, rfl, rfl, .ref Dl, rfl, _, rfl, Dl, ss, _, si, rfl, rfl, SqL.of eD9, ats, .ref Dl, rfl, _, rfl, Dl, ss, _, sj, rfl, rfl, SqL.of eD9, att, dE (stl e), dE (stl g), (si2.sm smF).dp, (sj2.sm smF).dp, shaped_dE _, shaped_dE _, rfl, brk e g, congrArg V.bl hbk, ite2 (fun z => ?_) (fun z => ?_)⟩
          · have ea9 := smF _ _ ea2
            refine ⟨.ref a, rfl, _, rfl, a, xs, _, _, rfl, rfl, SqT.of ea9, ate, ti, _, 1, yr, rfl, rfl, SqT.of (smF _ _ i1), rfl, .ref a, rfl, _, rfl, a, xs, _, _, rfl, rfl, SqT.of ea9, atg, tj, _, 1, yq, rfl, rfl, SqT.of (smF _ _ j1), rfl, _, rfl, by show 3 ≤ sizeLine; decide, fun q0 hq0 => ?_⟩
            have smq := same_new (o := HO.tup [yr, yq, vo (unl (thn e g) (thn g e))]) hq0
            exact q1 _ _ N (some (r, q, unl (thn e g) (thn g e))) (by rw [hF]; exact hN) hN3 (by rw [hF]; exact ⟨1 + s, 2 + t, e, g, by omega, hst, hi, hj, z, rfl, hnb2⟩) ⟨q0, yr, yq, rfl, upd_same, (i3.sm smF).sm smq, (j3.sm smF).sm smq⟩ (smH.trans (smF.trans smq))
          · refine ⟨_, _, _, _, rfl, smF, hnb2.next fun e' g' r' q' h1 h2 => ?_⟩
            rw [hi] at h1
            rw [hj] at h2
            cases h1
            cases h2
            simpa using z
        · rintro σ H5 ⟨x4, x5, x6, x7, rfl, sm5, hnb2⟩
          refine ⟨_, _, _, _, _, rfl, sm5, ?_⟩
          have e1 : 1 + ((2 : Int) + (t : Int) - 1).toNat = 2 + t := by omega
          rw [e1] at hnb2
          exact hnb2.row
      · rintro σ H3 ⟨x3, x4, x5, x6, x7, rfl, sm3, hnb⟩
        refine q1 _ _ N none (by rw [hF]; exact hN) hN3 ?_ rfl (smH.trans sm3)
        rw [hF]
        intro i' j' e g r q h1 h2 h3 h4 h5
        have hj := (List.getElem?_eq_some_iff.mp h5).1
        exact hnb i' j' e g r q h1 h2 (.inl (by omega)) h4 h5
end
end EO
end
section
set_option Elab.async false
set_option linter.all false
set_option maxRecDepth 100000
set_option maxHeartbeats 1000000
/-! the law's rows -/
namespace EO
open PySem PySem.Spec PyProof.Rows L2
/-- the law's list of deeds -/
def LD (H : Hp) (l : Addr) (ds : List (Str × Eff)) : Prop := ∃ xs, H l = some (.lst xs) ∧ Al (Dd H) xs ds
theorem LD.sm {H H' : Hp} {l : Addr} {ds : List (Str × Eff)} (h : LD H l ds) (s : Same H H') : LD H' l ds := let ⟨xs, a, b⟩ := h; ⟨xs, s _ _ a, b.mono fun _ _ q => q.kt (kt s)⟩
/-- the images under a name -/
def mts (z : Str) (ds : List (Str × Eff)) : List Eff := (ds.filter fun d => decide (d.1 = z)).map (·.2)
theorem mts_snoc (z : Str) (ds : List (Str × Eff)) (d : Str × Eff) : mts z (ds ++ [d]) = if d.1 = z then mts z ds ++ [d.2] else mts z ds := by
  unfold mts
  rw [List.filter_append, List.map_append]
  by_cases h : d.1 = z
  · rw [if_pos h, List.filter_cons, if_pos (decide_eq_true h)]
    rfl
  · rw [if_neg h, List.filter_cons, if_neg (fun q => h (of_decide_eq_true q))]
    simp
theorem mts_head {z : Str} {e : Eff} : ∀ {ds : List (Str × Eff)}, ds.lookup z = some e → ∃ rest, mts z ds = e :: rest
  | [], h => by cases h
  | d :: ds, h => by
    rw [List.lookup_cons] at h
    unfold mts
    cases q : (z == d.1) with
    | true =>
      rw [q] at h
      cases h
      rw [List.filter_cons, if_pos (decide_eq_true (eq_of_beq q).symm)]
      exact ⟨_, rfl⟩
    | false =>
      rw [q] at h
      have : ¬ d.1 = z := fun e => by rw [e] at q; simp at q
      rw [List.filter_cons, if_neg (fun q => this (of_decide_eq_true q))]
      exact mts_head h
section
variable {P : Program} {w : World} {K : PySem.W.Frag} {mg : Str → Option Value} {base : Heap} {CM CN CS : Addr}
def spLE (J : Prop) : Sp := fun vs H Q _ => ∃ n ds l v ps, vs = [.ref l, v] ∧ LD H l ds ∧ DG n ds ∧ 1 ≤ ds.length ∧ RowR H v ps ∧ (∀ p ∈ ps, Kn ds p) ∧ ((∃ p ∈ ps, isPw p) → J) ∧ ∀ H' r, Same H H' → Ef H' r (rowE n ds ps) → Q r H'
abbrev sc__law_effectN : List Str := ["_law_deeds_here", "_law_row", "_law_found", "_law_part", "_law_name", "_law_images"]
theorem sc__law_effect : FnScope sc__law_effectN ["_law_deeds_here", "_law_row"] (defScope (topS 54)) := ⟨rfl, rfl, rfl, by decide +kernel, rfl, by decide +kernel, by decide +kernel⟩
theorem ok__law_effect (J : Prop) {k : Nat} (hk : 2 ≤ k) (D : Dfn K mg "_law_effect" (topS 54)) (T : Txt K mg CM) (c__law_then : Fn P w K mg base 1 "_law_then" spThen) (c__law_done : Fn P w K mg base 2 "_law_done" spDone) (c__law_effect : Fn P w K mg base k "_law_effect" (fun vs H Q E => J ∧ spLE False vs H Q E)) :
    Fn P w K mg base (k + 1) "_law_effect" (spLE J) := by
  refine fn_by D sc__law_effect (fun _ _ _ _ _ _ us hl => match us, hl with | [_, _], _ => rfl) (fun vs H Q E h => ?_) (fun f cdv A outer s H vs Q E hr h => ?_)
  · obtain ⟨n, ds, l, v, ps, rfl, _⟩ := h
    rfl
  · obtain ⟨n, ds, l, v, ps, rfl, ⟨xs, hl, hal⟩, hdg, hd1, ⟨a, vs, rfl, ha, hps, hok, hlen⟩, hkn, hpw, q⟩ := h
    refine ⟨_, (pss_cons (ps_set (i := 2) sc__law_effect.nd rfl (Or.inl rfl) (pe_tupRg rfl rfl T.tuple (prg_1 rfl T.range (pe_callB call_len_seq rfl T.len PySem.boot_len (pa_cons (pe_ix ix_tup (pe_ix ix_list (pv 0) pe_int (fun _ _ => rfl)) pe_int (fun _ _ => rfl)) pa_nil)))))
 (pss_cons (ps_for PassesOwn.never rfl (pi_tup (pv 1)) (pg_name (i := 3) sc__law_effect.nd rfl (Or.inr rfl))
 (pss_one (ps_if (pt_val (pe_callB call_isi rfl T.isinstance PyProof.Rows.Boot.«isinstance» (pa_cons (pv 3) (pa_cons (pe_bltn (v := .ty "str") rfl T.str PyProof.Rows.Boot.«str» rfl) pa_nil))))
 (pss_one (ps_set (i := 2) sc__law_effect.nd rfl (Or.inl rfl) (pe_f c__law_then hr (by first | decide | omega) rfl (pa_cons (pv 2) (pa_cons (pe_ix ix_list (pe_lc (own := [("_law_name", 4), ("_law_images", 5)]) rfl sc__law_effect.nd (pi_list (pv 0)) (blkOk_by (N := sc__law_effectN) (sc := defScope (topS 54)) (by decide +kernel)) (fun _ _ _ _ _ => (pg_tupC (K := K) (n := 2) rfl rfl (pgs_cons (pg_name (i := 4) sc__law_effect.nd rfl (Or.inl rfl)) (pgs_cons (pg_name (i := 5) sc__law_effect.nd rfl (Or.inl rfl)) pgs_nil)))) (fun _ _ _ _ _ => (pts_one (pt_cmpR op_eq (pv 4) (pv 3) (nomark _)))) (fun _ _ _ _ _ => (pv 5))) pe_int (fun _ _ => rfl)) pa_nil)))))
 (pss_one (ps_set (i := 2) sc__law_effect.nd rfl (Or.inl rfl) (pe_f c__law_then hr (by first | decide | omega) rfl (pa_cons (pv 2) (pa_cons (pe_f c__law_done hr (by first | decide | omega) rfl (pa_cons (pe_f c__law_effect hr (by first | decide | omega) rfl (pa_cons (pv 0) (pa_cons (pe_ix ix_tup (pv 3) pe_int (fun _ _ => rfl)) pa_nil))) (pa_cons (pe_ix ix_tup (pv 3) pe_int (fun _ _ => rfl)) pa_nil))) pa_nil))))))))
 (pss_one (ps_ret (pv 2))))), ?_⟩
    have hn6 := hdg.hi
    have hxl := hal.1
    have hfew := hdg.few
    obtain ⟨d0, dr, rfl⟩ : ∃ d0 dr, ds = d0 :: dr := by
      cases ds with
      | nil => exact absurd hd1 (by simp)
      | cons d0 dr => exact ⟨d0, dr, rfl⟩
    obtain ⟨x0, xr, rfl, ⟨t0, y0, rfl, g1, ⟨yy, rfl, g2⟩⟩, _⟩ := hal.uncons
    have len0 : (vns d0.2).length = n := by rw [List.length_map, (hdg.ok d0 (List.mem_cons_self ..)).len]
    refine ⟨.ref l, rfl, l, _, 0, .ref t0, rfl, rfl, SqL.of hl, atI_nat (j := 0) rfl, t0, _, 1, .ref yy, rfl, rfl, SqT.of g1, rfl, yy, _, rfl, .inr (SqT.of g2), ?_⟩
    rw [len0]
    refine ⟨n, rfl, RgOk.of_le (by decide) (by omega) (by decide) (by omega), fun qq hq => ?_⟩
    rw [rg_id]
    have smq := same_new (o := HO.tup (vns (idE n))) hq
    generalize hds : d0 :: dr = ds at *
    refine ⟨.ref a, rfl, a, rfl, ⟨_, SqT.of (smq _ _ ha)⟩, for_it walk_tup (fun i σ H' => ∃ gv x3, σ = [some (.ref l), some (.ref a), some gv, x3, none, none] ∧ Same H H' ∧ Ef H' gv (rowE n ds (ps.take i))) ⟨.ref qq, _, rfl, smq, ⟨qq, rfl, upd_same⟩⟩ (fun i σ H' _ ⟨_, _, _, sm, _⟩ => SqT.of (sm _ _ ha)) ?_ ?_⟩
    · rintro i y σ H1 H2 hi ⟨gv, x3, rfl, sm, hg⟩ ⟨rfl, hy⟩
      obtain ⟨p, hp, hyp⟩ := hps.at' hy
      have hmem := List.mem_of_getElem? hp
      have okg : Ok n (rowE n ds (ps.take i)) := rowE_ok hdg.ds fun p hp => hkn p (List.mem_of_mem_take hp)
      have okp := ptE_ok hdg.ds (hkn p hmem)
      have step : rowE n ds (ps.take (i + 1)) = thn (rowE n ds (ps.take i)) (ptE n ds p) := by
        rw [List.take_add_one, hp]
        exact rowE_snoc n ds _ p
      have lt : ∀ x ∈ rowE n ds (ps.take i), x < (ptE n ds p).length := fun x hx => by rw [okp.len]; exact okg.lt x hx
      have ln : (rowE n ds (ps.take i)).length ≤ 1000 := by rw [okg.len]; omega
      cases p with
      | nm z =>
        cases hyp
        obtain ⟨e, he⟩ := Option.isSome_iff_exists.mp (hkn _ hmem)
        have hnm : nmE ds z = e := by unfold nmE; rw [he]; rfl
        refine ⟨.str z, rfl, .str z, .ty "str", .type "str", .type "str", true, rfl, .ty _, (Rp.str (CM := CM) (H := H2) z).ty rfl, kit_str (.str z) rfl, true, rfl, ?_⟩
        refine ⟨gv, rfl, .ref l, rfl, l, rfl, ⟨_, SqL.of (sm _ _ hl)⟩, fun Dl hD => lc_it walk_list (fun j H' => Same H2 H' ∧ ∃ acc, H' Dl = some (.lst acc) ∧ Al (Ef H') acc (mts z (ds.take j))) ⟨same_new hD, [], upd_same, Al.nil⟩ (fun _ _ _ p => SqL.of (p.1 _ _ (sm _ _ hl))) ?_ ?_⟩
        · rintro j w2 H3 H4 hj ⟨sm3, acc, eD, hacc⟩ ⟨rfl, hw⟩
          obtain ⟨d, hd, t, yv, rfl, d1, d2⟩ := hal.at' hw
          have d11 := sm3 _ _ (sm _ _ d1)
          refine ⟨t, _, rfl, SqT.of d11, rfl, _, _, rfl, _, _, rfl, rfl, rfl, ?_⟩
          have hm : mts z (ds.take (j + 1)) = if d.1 = z then mts z (ds.take j) ++ [d.2] else mts z (ds.take j) := by
            rw [List.take_add_one, hd]
            exact mts_snoc z _ d
          refine ⟨_, rfl, _, rfl, rfl, _, rfl, ite2 (fun e0 => ?_) (fun e0 => ?_)⟩
          · have hz : d.1 = z := V.str.inj (of_decide_eq_true e0)
            have k6 := kt_lst (o := HO.lst (acc ++ [yv])) eD
            refine ⟨yv, rfl, acc, eD, ?_, same_at sm3 hD, acc ++ [yv], upd_same, ?_⟩
            · have h1 : acc.length = (mts z (ds.take j)).length := hacc.1
              have h2 : (mts z (ds.take j)).length ≤ j := by
                unfold mts
                rw [List.length_map]
                refine Nat.le_trans (List.length_filter_le _ _) ?_
                rw [List.length_take]
                exact Nat.min_le_left _ _
              exact szl (by omega)
            · rw [hm, if_pos hz]
              exact Al.snoc (hacc.mono fun _ _ h => h.kt k6) ((d2.kt (kt (sm.trans sm3))).kt k6)
          · have hz : ¬ d.1 = z := fun q => e0 (decide_eq_true (by rw [q]))
            refine ⟨sm3, acc, eD, ?_⟩
            rw [hm, if_neg hz]
            exact hacc
        · rintro H3 ⟨sm3, acc, eD, hacc⟩
          rw [hal.1, List.take_length] at hacc
          obtain ⟨rest, hr⟩ := mts_head he
          rw [hr] at hacc
          obtain ⟨v0, vr, rfl, hv0, _⟩ := hacc.uncons
          refine ⟨Dl, _, 0, v0, rfl, rfl, SqL.of eD, atI_nat (j := 0) rfl, gv, v0, _, ptE n ds (.nm z), rfl, hg.sm sm3, ?_, lt, ln, fun H4 r sm4 hr4 => ⟨r, _, rfl, (sm.trans sm3).trans sm4, ?_⟩⟩
          · show Ef H3 v0 (nmE ds z)
            rw [hnm]; exact hv0
          · rw [step]; exact hr4
      | pw r k2 =>
        obtain ⟨a2, y2, rfl, h2, hy2⟩ := hyp
        have h21 := sm _ _ h2
        have hJ : J := hpw ⟨_, hmem, trivial⟩
        have ok2 := hok _ hmem
        have kn2 : ∀ x ∈ r, (ds.lookup x).isSome = true := hkn _ hmem
        refine ⟨.ref a2, rfl, .ref a2, .ty "str", .type "tuple", .type "str", false, rfl, .ty _, .base (.tup h21), kit_str (K := K) (.tuple []) rfl, false, rfl, ?_⟩
        refine ⟨gv, rfl, .ref l, rfl, .ref a2, rfl, a2, _, 0, y2, rfl, rfl, SqT.of h21, rfl, hJ, n, ds, l, y2, r.map Pt.nm, rfl, ⟨_, sm _ _ hl, hal.mono fun _ _ h => h.kt (kt sm)⟩, hdg, hd1, (hy2.sm sm).row ok2.1 ok2.2.2, ?_, ?_, fun H3 r3 sm3 hr3 => ?_⟩
        · intro p hp
          obtain ⟨x, hx, rfl⟩ := List.mem_map.mp hp
          exact kn2 x hx
        · rintro ⟨p, hp, hp2⟩
          obtain ⟨x, hx, rfl⟩ := List.mem_map.mp hp
          exact absurd hp2 id
        · rw [rowE_nm] at hr3
          have sm13 := sm.trans sm3
          refine ⟨.ref a2, rfl, a2, _, 1, vn k2, rfl, rfl, SqT.of (sm3 _ _ h21), rfl, n, r3, nE n ds r, k2, rfl, hr3, nE_ok hdg.ds kn2, by omega, fun H4 r4 sm4 hr4 => ?_⟩
          refine ⟨gv, r4, _, ptE n ds (.pw r k2), rfl, (hg.sm sm3).sm sm4, hr4, lt, ln, fun H5 r5 sm5 hr5 => ⟨r5, _, rfl, (sm13.trans sm4).trans sm5, ?_⟩⟩
          rw [step]; exact hr5
      | od => exact absurd (hkn _ hmem) id
    · rintro σ H1 ⟨gv, x3, rfl, sm, hg⟩
      refine ⟨gv, rfl, q _ _ sm ?_⟩
      rw [hps.1, List.take_length] at hg
      exact hg
end
end EO
end
section
set_option Elab.async false
set_option linter.all false
set_option maxRecDepth 100000
set_option maxHeartbeats 1000000
/-! the law's own judge -/
namespace EO
open PySem PySem.Spec PyProof.Rows L2
def lpt (ns : List Str) : Pt → Bool
  | .nm x => decide (x ∈ ns)
  | .pw _ _ => true
  | .od => false
def lrow (ns : List Str) (ps : List Pt) : Bool := ps.all (lpt ns)
theorem lrow_knc (n : Nat) (ds : List (Str × Eff)) : ∀ ps : List Pt, (lrow (ds.map (·.1)) ps = true ↔ ((ps.all fun p => !isOd p) = true ∧ strange (ds.map (·.1)) ps = none))
  | [] => ⟨fun _ => ⟨rfl, rfl⟩, fun _ => rfl⟩
  | .nm x :: r => by
    have ih := lrow_knc n ds r
    have h1 : lrow (ds.map (·.1)) (.nm x :: r) = (decide (x ∈ ds.map (·.1)) && lrow (ds.map (·.1)) r) := rfl
    have h2 : ((Pt.nm x :: r).all fun p => !isOd p) = (r.all fun p => !isOd p) := by rw [List.all_cons]; rfl
    have h3 : strange (ds.map (·.1)) (.nm x :: r) = if x ∈ ds.map (·.1) then strange (ds.map (·.1)) r else some x := rfl
    rw [h1, h2, h3]
    by_cases hx : x ∈ ds.map (·.1)
    · rw [if_pos hx, decide_eq_true hx, Bool.true_and]; exact ih
    · rw [if_neg hx, decide_eq_false hx, Bool.false_and]
      exact ⟨fun h => (by cases h), fun h => (by cases h.2)⟩
  | .pw _ _ :: r => by
    have ih := lrow_knc n ds r
    have h2 : ∀ a k, ((Pt.pw a k :: r).all fun p => !isOd p) = (r.all fun p => !isOd p) := fun a k => by rw [List.all_cons]; rfl
    rw [h2]
    exact ih
  | .od :: r => ⟨fun h => (by cases h), fun h => (by cases h.1)⟩
theorem knc_row {n : Nat} {ds : List (Str × Eff)} {ps : List Pt} : knc n ds (.row ps) = if lrow (ds.map (·.1)) ps = true then some (rowE n ds ps) else none := by
  show (if (ps.all fun p => !isOd p) = true then kne n ds ps else none) = _
  have h := lrow_knc n ds ps
  cases e : lrow (ds.map (·.1)) ps with
  | true =>
    have := h.mp e
    rw [if_pos this.1, if_pos rfl]
    unfold kne
    rw [if_pos this.2]
  | false =>
    rw [if_neg Bool.false_ne_true]
    by_cases h1 : (ps.all fun p => !isOd p) = true
    · rw [if_pos h1]
      unfold kne
      rw [if_neg fun h2 => by rw [h.mpr ⟨h1, h2⟩] at e; cases e]
    · rw [if_neg h1]
section
variable {P : Program} {w : World} {K : PySem.W.Frag} {mg : Str → Option Value} {base : Heap} {CM CN CS : Addr}
theorem flat_data {H : Hp} : ∀ {vs : List V}, (∀ v ∈ vs, (∃ x, v = .str x ∧ nmS x = true) ∨ v = .int 0) → ∃ ds, DpAll K H vs ds ∧ PyData.canLayAll0 ds = true ∧ PyData.depthAll ds = 0 ∧ ds.length = vs.length
  | [], _ => ⟨[], .nil, rfl, rfl, rfl⟩
  | v :: vs, h => by
    obtain ⟨ds, a, b, c, e⟩ := flat_data (vs := vs) fun u hu => h u (List.mem_cons_of_mem _ hu)
    rcases h v (List.mem_cons_self ..) with ⟨x, rfl, hx⟩ | rfl
    · exact ⟨.str x :: ds, .cons (.str x) a, by simp [PyData.canLayAll0, nmS_ok hx, b], by simp [PyData.depthAll, PyData.depth, c], by simp [e]⟩
    · exact ⟨.int 0 :: ds, .cons (.int 0) a, by simp [PyData.canLayAll0, PyData.canLay0, b], by simp [PyData.depthAll, PyData.depth, c], by simp [e]⟩
def spLR (CM : Addr) : Sp := fun vs H Q _ => ∃ l ns v, vs = [.ref l, v] ∧ H l = some (.lst (vss ns)) ∧ ((∃ d, Rp CM H v d ∧ isT d = false ∧ Q (.bl false) H) ∨ ∃ ps, RowR H v ps ∧ ∀ H', Same H H' → Q (.bl (lrow ns ps)) H')
abbrev sc__law_is_rowN : List Str := ["_law_words", "_law_value", "_law_part"]
theorem sc__law_is_row : FnScope sc__law_is_rowN ["_law_words", "_law_value"] (defScope (topS 62)) := ⟨rfl, rfl, rfl, by decide +kernel, rfl, by decide +kernel, by decide +kernel⟩
theorem ok__law_is_row (D : Dfn K mg "_law_is_row" (topS 62)) (T : Txt K mg CM) : Fn P w K mg base 1 "_law_is_row" (spLR CM) := by
  refine fn_by D sc__law_is_row (fun _ _ _ _ _ _ us hl => match us, hl with | [_, _], _ => rfl) (fun vs H Q E h => ?_) (fun f cdv A outer s H vs Q E hr h => ?_)
  · obtain ⟨l, ns, v, rfl, _⟩ := h
    rfl
  · obtain ⟨l, ns, v, rfl, hl, h⟩ := h
    refine ⟨_, (pss_cons (ps_if (pt_not (pt_val (pe_callB call_isi rfl T.isinstance PyProof.Rows.Boot.«isinstance» (pa_cons (pv 1) (pa_cons (pe_bltn (v := .ty "tuple") rfl T.tuple PyProof.Rows.Boot.«tuple» rfl) pa_nil)))))
 (pss_one (ps_ret pe_bl))
 pss_nil)
 (pss_one (ps_ret (pe_cmpR (op_eqD hr.units) (pe_lc (own := [("_law_part", 2)]) rfl sc__law_is_row.nd (pi_tup (pv 1)) (blkOk_by (N := sc__law_is_rowN) (sc := defScope (topS 62)) (by decide +kernel)) (fun _ _ _ _ _ => (pg_name (i := 2) sc__law_is_row.nd rfl (Or.inl rfl))) (fun _ _ _ _ _ => (pts_one (PW.pt (pw_and (pt_not (pt_val (pe_callB (call_isi : CallR _ _ (rIsi K)) rfl T.isinstance PyProof.Rows.Boot.«isinstance» (pa_cons (pv 2) (pa_cons (pe_bltn (v := .ty "tuple") rfl T.tuple PyProof.Rows.Boot.«tuple» rfl) pa_nil))))) (pw_and1 (pt_cmpR (op_notIn_seq : OpR _ _ (rIn K true)) (pv 2) (pv 0) (by rfl))))))) (fun _ _ _ _ _ => (pv 2))) (pe_lst pa_nil) (nomark _))))), ?_⟩
    rcases h with ⟨d, hv, hd, q⟩ | ⟨ps, ⟨a, xs, rfl, ha, hal, hok, hlen⟩, q⟩
    · obtain ⟨t, ty1, ty2⟩ := hv.tup_ty T
      rw [hd] at ty2
      exact ⟨v, rfl, v, .ty "tuple", t, .type "tuple", false, rfl, .ty _, ty1, ty2, false, rfl, q⟩
    · refine ⟨.ref a, rfl, .ref a, .ty "tuple", .type "tuple", .type "tuple", true, rfl, .ty _, .base (.tup ha), kit_tup (K := K) (.tuple []) rfl, true, rfl, ?_⟩
      refine ⟨.ref a, rfl, a, rfl, ⟨_, SqT.of ha⟩, fun Dl hD => lc_it walk_tup (fun i H' => Same H H' ∧ ∃ acc, H' Dl = some (.lst acc) ∧ acc.length ≤ i ∧ (∀ v ∈ acc, (∃ x, v = .str x ∧ nmS x = true) ∨ v = .int 0) ∧ acc.isEmpty = lrow ns (ps.take i)) ⟨same_new hD, [], upd_same, Nat.le_refl _, fun _ h => absurd h (by simp), rfl⟩ (fun _ _ _ p => SqT.of (p.1 _ _ ha)) ?_ ?_⟩
      · rintro i y H1 H2 hi ⟨sm, acc, eD, hacl, hac, hem⟩ ⟨rfl, hy⟩
        obtain ⟨p, hp, hyp⟩ := hal.at' hy
        have hmem := List.mem_of_getElem? hp
        have hst : lrow ns (ps.take (i + 1)) = (lrow ns (ps.take i) && lpt ns p) := by
          unfold lrow
          rw [List.take_add_one, hp, List.all_append]
          simp
        have add : ∀ v, ((∃ x, v = V.str x ∧ nmS x = true) ∨ v = .int 0) → lpt ns p = false → ∃ acc', H2 Dl = some (.lst acc') ∧ acc'.length < sizeLine ∧ (Same H (upd H2 Dl (.lst (acc' ++ [v]))) ∧ ∃ acc, upd H2 Dl (.lst (acc' ++ [v])) Dl = some (.lst acc) ∧ acc.length ≤ i + 1 ∧ (∀ v ∈ acc, (∃ x, v = .str x ∧ nmS x = true) ∨ v = .int 0) ∧ acc.isEmpty = lrow ns (ps.take (i + 1))) := by
          intro v hv hf
          refine ⟨acc, eD, szl (by have := hal.1; omega), same_at sm hD, acc ++ [v], upd_same, by simp; omega, fun u hu => ?_, ?_⟩
          · rcases List.mem_append.mp hu with hu | hu
            · exact hac u hu
            · rw [List.mem_singleton.mp hu]; exact hv
          · rw [hst, hf, Bool.and_false]
            cases acc <;> rfl
        refine ⟨rfl, ?_⟩
        cases p with
        | nm z =>
          cases hyp
          refine ⟨.str z, rfl, .str z, .ty "tuple", .type "str", .type "tuple", false, rfl, .ty _, (Rp.str (CM := CM) (H := H2) z).ty rfl, kit_tup (.str z) rfl, false, rfl, ?_⟩
          refine ⟨.str z, rfl, .ref l, rfl, l, vss ns, rfl, .inl (SqL.of (sm _ _ hl)), rfl, flat_vss ns, !decide (z ∈ ns), ?_, ite2 (fun e => ?_) (fun e => ?_)⟩
          · rw [if_pos rfl, inV_str]
          · exact ⟨_, rfl, add (.str z) (.inl ⟨z, rfl, hok _ hmem⟩) (by show decide (z ∈ ns) = false; simpa using e)⟩
          · refine ⟨sm, acc, eD, by omega, hac, ?_⟩
            have : lpt ns (.nm z) = true := by
              show decide (z ∈ ns) = true
              simpa using e
            rw [hst, this, Bool.and_true]
            exact hem
        | pw r k =>
          obtain ⟨a2, y2, rfl, h2, _⟩ := hyp
          refine ⟨.ref a2, rfl, .ref a2, .ty "tuple", .type "tuple", .type "tuple", true, rfl, .ty _, .base (.tup (sm _ _ h2)), kit_tup (K := K) (.tuple []) rfl, true, rfl, sm, acc, eD, by omega, hac, ?_⟩
          rw [hst]
          show _ = (lrow ns (ps.take i) && true)
          rw [Bool.and_true]
          exact hem
        | od =>
          cases hyp
          refine ⟨.int 0, rfl, .int 0, .ty "tuple", .type "int", .type "tuple", false, rfl, .ty _, (Rp.int (CM := CM) (H := H2) 0).ty rfl, kit_tup (.int 0) rfl, false, rfl, ?_⟩
          have hin : inV (.int 0) (vss ns) = false := by
            unfold inV
            rw [List.any_map, List.any_eq_false]
            intro x _ h
            cases h
          refine ⟨.int 0, rfl, .ref l, rfl, l, vss ns, rfl, .inl (SqL.of (sm _ _ hl)), rfl, flat_vss ns, true, ?_, ?_⟩
          · rw [if_pos rfl, hin]; rfl
          · exact ⟨_, rfl, add (.int 0) (.inr rfl) rfl⟩
      · rintro H1 ⟨sm, acc, eD, hacl, hac, hem⟩
        rw [hal.1, List.take_length] at hem
        refine ⟨Nat.zero_le _, fun p2 hp2 => ?_⟩
        have sm2 := same_new (o := HO.lst []) hp2
        obtain ⟨dd, b1, b2, b3, b4⟩ := flat_data (K := K) (H := upd H1 p2 (.lst [])) hac
        refine ⟨.list dd, .list [], .lst (SqL.of (sm2 _ _ eD)) b1, .lst (SqL.of upd_same) .nil, ?_, rfl, ?_⟩
        · simp [SeqAt.shaped, PyData.canLay0, b2, PyData.depth, b3]
        · have z : PyData.eqv (.list dd) (.list []) = lrow ns ps := by
            rw [← hem]
            cases dd with
            | nil =>
              cases acc with
              | nil => rfl
              | cons _ _ => cases b4
            | cons _ _ =>
              cases acc with
              | nil => cases b4
              | cons _ _ => rfl
          rw [z]
          exact q _ (sm.trans sm2)
end
end EO
end
section
set_option Elab.async false
set_option linter.all false
set_option maxRecDepth 100000
set_option maxHeartbeats 1000000
/-! the law's own judge of breaches -/
namespace EO
open PySem PySem.Spec PyProof.Rows L2
theorem isIB_not {d : PyData} (h1 : isB d = false) (h2 : isI d = false) : isIB d = false := by
  cases d <;> simp_all [isIB, isB, isI]
section
variable {P : Program} {w : World} {K : PySem.W.Frag} {mg : Str → Option Value} {base : Heap} {CM CN CS : Addr}
def spLB (CM : Addr) : Sp := fun vs H Q _ => ∃ n ds l v, vs = [.ref l, v] ∧ LD H l ds ∧ DG n ds ∧ 1 ≤ ds.length ∧
  ((∃ d, Rp CM H v d ∧ (isT d = false ∨ ∃ xs, d = .tuple xs ∧ xs.length ≠ 3 ∧ xs.length ≤ 1000) ∧ ∀ H', Same H H' → Q (.bl false) H') ∨
   (∃ a x y z X Y Z, v = .ref a ∧ H a = some (.tup [x, y, z]) ∧ CpR CM H ds x X ∧ CpR CM H ds y Y ∧ ZtR CM H z Z ∧ ∀ H', Same H H' → Q (.bl (isBr n ds X Y Z)) H'))
abbrev sc__law_is_breachN : List Str := ["_law_deeds_here", "_law_value", "_law_words", "_law_one", "_law_two", "_law_first", "_law_second", "_law_deed"]
theorem sc__law_is_breach : FnScope sc__law_is_breachN ["_law_deeds_here", "_law_value"] (defScope (topS 63)) := ⟨rfl, rfl, rfl, by decide +kernel, rfl, by decide +kernel, by decide +kernel⟩
theorem ok__law_is_breach {k : Nat} (hk : 1 ≤ k) (D : Dfn K mg "_law_is_breach" (topS 63)) (T : Txt K mg CM) (c__law_is_row : Fn P w K mg base 1 "_law_is_row" (spLR CM)) (c__law_effect : Fn P w K mg base k "_law_effect" (spLE True)) (c__law_then : Fn P w K mg base 1 "_law_then" spThen) (c__law_stills : Fn P w K mg base 1 "_law_stills" spStL) :
    Fn P w K mg base (k + 1) "_law_is_breach" (spLB CM) := by
  refine fn_by D sc__law_is_breach (fun _ _ _ _ _ _ us hl => match us, hl with | [_, _], _ => rfl) (fun vs H Q E h => ?_) (fun f cdv A outer s H vs Q E hr h => ?_)
  · obtain ⟨n, ds, l, v, rfl, _⟩ := h
    rfl
  · obtain ⟨n, ds, l, v, rfl, ⟨xs, hl, hal⟩, hdg, hd1, h⟩ := h
    refine ⟨_, (pss_cons (ps_setLc (i := 2) (own := [("_law_deed", 7)]) rfl sc__law_is_breach.nd rfl rfl (sw_true rfl rfl rfl (by decide +kernel)) (pi_list (pv 0)) (blkOk_by (N := sc__law_is_breachN) (sc := defScope (topS 63)) (by decide +kernel)) (fun _ _ _ _ _ => (pg_name (i := 7) sc__law_is_breach.nd rfl (Or.inl rfl))) (fun _ _ _ _ _ => pts_nil) (fun _ _ _ _ _ => (pe_ix (ix_tup : IxR _ (rIxT K)) (pv 7) pe_int (fun _ _ => rfl))))
 (pss_cons (ps_if (PW.pt (pw_or (pt_not (pt_val (pe_callB call_isi rfl T.isinstance PyProof.Rows.Boot.«isinstance» (pa_cons (pv 1) (pa_cons (pe_bltn (v := .ty "tuple") rfl T.tuple PyProof.Rows.Boot.«tuple» rfl) pa_nil))))) (pw_or (pt_cmpR op_ne (pe_callB call_len_seq rfl T.len PySem.boot_len (pa_cons (pv 1) pa_nil)) pe_int (nomark _)) (pw_or (pt_not (pt_val (pe_f c__law_is_row hr (by first | decide | omega) rfl (pa_cons (pv 2) (pa_cons (pe_ix ix_tup (pv 1) pe_int (fun _ _ => rfl)) pa_nil))))) (pw_or1 (pt_not (pt_val (pe_f c__law_is_row hr (by first | decide | omega) rfl (pa_cons (pv 2) (pa_cons (pe_ix ix_tup (pv 1) pe_int (fun _ _ => rfl)) pa_nil))))))))))
 (pss_one (ps_ret pe_bl))
 pss_nil)
 (pss_cons (ps_par (i := 3) (j := 4) rfl sc__law_is_breach.nd rfl rfl (by decide) rfl rfl (pa_cons (pe_f c__law_effect hr (by first | decide | omega) rfl (pa_cons (pv 0) (pa_cons (pe_ix ix_tup (pv 1) pe_int (fun _ _ => rfl)) pa_nil))) (pa_cons (pe_f c__law_effect hr (by first | decide | omega) rfl (pa_cons (pv 0) (pa_cons (pe_ix ix_tup (pv 1) pe_int (fun _ _ => rfl)) pa_nil))) pa_nil)) (by rfl))
 (pss_cons (ps_if (PW.pt (pw_or (pt_cmpR (op_eqD hr.units) (pv 3) (pe_tupRg rfl rfl T.tuple (prg_1 rfl T.range (pe_callB call_len_seq rfl T.len PySem.boot_len (pa_cons (pv 3) pa_nil)))) (nomark _)) (pw_or1 (pt_cmpR (op_eqD hr.units) (pv 4) (pe_tupRg rfl rfl T.tuple (prg_1 rfl T.range (pe_callB call_len_seq rfl T.len PySem.boot_len (pa_cons (pv 4) pa_nil)))) (nomark _)))))
 (pss_one (ps_ret pe_bl))
 pss_nil)
 (pss_cons (ps_par (i := 5) (j := 6) rfl sc__law_is_breach.nd rfl rfl (by decide) rfl rfl (pa_cons (pe_f c__law_then hr (by first | decide | omega) rfl (pa_cons (pv 3) (pa_cons (pv 4) pa_nil))) (pa_cons (pe_f c__law_then hr (by first | decide | omega) rfl (pa_cons (pv 4) (pa_cons (pv 3) pa_nil))) pa_nil)) (by rfl))
 (pss_cons (ps_if (pt_cmpR op_isN (pe_ix ix_tup (pv 1) pe_int (fun _ _ => rfl)) pe_non (nomark _))
 (pss_one (ps_ret (pe_and (pe_cmpR (op_eqD hr.units) (pv 5) (pv 6) (nomark _)) (pe_one (pe_cmpR (op_neD hr.units) (pe_f c__law_stills hr (by first | decide | omega) rfl (pa_cons (pv 3) pa_nil)) (pe_f c__law_stills hr (by first | decide | omega) rfl (pa_cons (pv 4) pa_nil)) (nomark _))))))
 pss_nil)
 (pss_cons (ps_if (PW.pt (pw_or (pt_not (pt_val (pe_callB call_isi rfl T.isinstance PyProof.Rows.Boot.«isinstance» (pa_cons (pe_ix ix_tup (pv 1) pe_int (fun _ _ => rfl)) (pa_cons (pe_bltn (v := .ty "int") rfl T.int PyProof.Rows.Boot.«int» rfl) pa_nil))))) (pw_or (pt_val (pe_callB call_isi rfl T.isinstance PyProof.Rows.Boot.«isinstance» (pa_cons (pe_ix ix_tup (pv 1) pe_int (fun _ _ => rfl)) (pa_cons (pe_bltn (v := .ty "bool") rfl T.bool PyProof.Rows.Boot.«bool» rfl) pa_nil)))) (pw_or (pt_cmpR op_lt (pe_ix ix_tup (pv 1) pe_int (fun _ _ => rfl)) pe_int (nomark _)) (pw_or1 (pt_cmpR op_ge (pe_ix ix_tup (pv 1) pe_int (fun _ _ => rfl)) (pe_callB call_len_seq rfl T.len PySem.boot_len (pa_cons (pv 3) pa_nil)) (nomark _)))))))
 (pss_one (ps_ret pe_bl))
 pss_nil)
 (pss_one (ps_ret (pe_and (pe_cmpR op_ne (pe_ix ix_tup (pv 5) (pe_ix ix_tup (pv 1) pe_int (fun _ _ => rfl)) (fun _ _ => rfl)) (pe_ix ix_tup (pv 6) (pe_ix ix_tup (pv 1) pe_int (fun _ _ => rfl)) (fun _ _ => rfl)) (nomark _)) (pe_one (pe_cmpR (op_eqD hr.units) (pe_f c__law_stills hr (by first | decide | omega) rfl (pa_cons (pv 3) pa_nil)) (pe_f c__law_stills hr (by first | decide | omega) rfl (pa_cons (pv 4) pa_nil)) (nomark _))))))))))))), ?_⟩
    have hn6 := hdg.hi
    have hfew := hdg.few
    refine ⟨.ref l, rfl, l, rfl, ⟨_, SqL.of hl⟩, fun Dl hD => lc_it walk_list (fun i H' => Same H H' ∧ H' Dl = some (.lst (vss ((ds.map (·.1)).take i)))) ⟨same_new hD, upd_same⟩ (fun _ _ _ p => SqL.of (p.1 _ _ hl)) ?_ ?_⟩
    · rintro i z H2 H3 hi ⟨sm2, eD⟩ ⟨rfl, hz⟩
      obtain ⟨d, hd, t, y2, rfl, h1, h2⟩ := hal.at' hz
      refine ⟨rfl, .ref t, rfl, t, _, 0, .str d.1, rfl, rfl, SqT.of (sm2 _ _ h1), rfl, _, eD, ?_, same_at sm2 hD, ?_⟩
      · rw [List.length_map, List.length_take]
        exact szl (by have := hal.1; rw [List.length_map]; omega)
      · rw [upd_same, List.take_add_one, List.getElem?_map, hd, vss, vss, List.map_append]
        rfl
    · rintro H2 ⟨sm2, eD⟩
      have eD' : H2 Dl = some (.lst (vss (ds.map (·.1)))) := by
        rw [eD, hal.1, ← List.length_map (·.1), List.take_length]
      have kx2 : KX CM H H2 := kx sm2
      rcases h with ⟨d, hd, ht, q⟩ | ⟨a, x, y, z, X, Y, Z, rfl, ha, hx, hy, hz, q⟩
      · have hd2 := hd.mono kx2
        obtain ⟨t, ty1, ty2⟩ := hd2.tup_ty T
        refine ⟨v, rfl, v, .ty "tuple", t, .type "tuple", isT d, rfl, .ty _, ty1, ty2, isT d, rfl, ?_⟩
        rcases ht with ht | ⟨xs, rfl, h3, h4⟩
        · rw [ht]
          exact q _ sm2
        · cases hd2 with
          | tup ha hr =>
            rename_i a vs
            have hll := hr.al.1
            refine ⟨.ref a, rfl, a, vs, rfl, .inr (SqT.of ha), rfl, true, ?_, q _ sm2⟩
            refine congrArg V.bl ?_
            rw [hll]
            have : ¬ (V.int (xs.length : Int) = V.int 3) := fun e => h3 (by have := V.int.inj e; omega)
            rw [decide_eq_false this]
            rfl
      · have bad : ∀ H', Same H2 H' → isBr n ds X Y Z = false → Q (.bl false) H' := fun H' s e => by
          have := q _ (sm2.trans s)
          rw [e] at this
          exact this
        have ha2 := sm2 _ _ ha
        refine ⟨.ref a, rfl, .ref a, .ty "tuple", .type "tuple", .type "tuple", true, rfl, .ty _, .base (.tup ha2), kit_tup (K := K) (.tuple []) rfl, true, rfl, .ref a, rfl, a, _, rfl, .inr (SqT.of ha2), rfl, false, rfl, ?_⟩
        cases X with
        | oth =>
          obtain ⟨d, hd, ht⟩ := hx
          exact ⟨.ref Dl, rfl, .ref a, rfl, a, _, 0, x, rfl, rfl, SqT.of ha2, rfl, Dl, (ds.map fun z : Str × Eff => z.1), x, rfl, eD', .inl ⟨d, hd.mono kx2, ht, false, rfl, bad _ (Same.refl _) (by unfold isBr; rfl)⟩⟩
        | row ps =>
          have kX := knc_row (n := n) (ds := ds) (ps := ps)
          refine ⟨.ref Dl, rfl, .ref a, rfl, a, _, 0, x, rfl, rfl, SqT.of ha2, rfl, Dl, (ds.map fun z : Str × Eff => z.1), x, rfl, eD', .inr ⟨ps, hx.1.kt (kt sm2), fun H3 s3 => ⟨_, rfl, ite2 (fun e => ?_) (fun e => ?_)⟩⟩⟩
          · have e' : lrow (ds.map (·.1)) ps = false := by simpa using e
            rw [e', if_neg Bool.false_ne_true] at kX
            exact bad _ s3 (by unfold isBr; rw [kX])
          have eX : lrow (ds.map (·.1)) ps = true := by simpa using e
          rw [eX, if_pos rfl] at kX
          have kn1 := (lrow_knc n ds ps).mp eX
          have knp : ∀ p ∈ ps, Kn ds p := kn_of kn1.2 (fun p hp => by have := List.all_eq_true.mp kn1.1 p hp; simpa using this) hx.2
          cases Y with
          | oth =>
            obtain ⟨d, hd, ht⟩ := hy
            exact ⟨.ref Dl, rfl, .ref a, rfl, a, _, 1, y, rfl, rfl, SqT.of (s3 _ _ ha2), rfl, Dl, (ds.map fun z : Str × Eff => z.1), y, rfl, s3 _ _ eD', .inl ⟨d, hd.mono (kx (sm2.trans s3)), ht, false, rfl, bad _ s3 (by unfold isBr; rw [kX]; rfl)⟩⟩
          | row ps2 =>
            have kY := knc_row (n := n) (ds := ds) (ps := ps2)
            refine ⟨.ref Dl, rfl, .ref a, rfl, a, _, 1, y, rfl, rfl, SqT.of (s3 _ _ ha2), rfl, Dl, (ds.map fun z : Str × Eff => z.1), y, rfl, s3 _ _ eD', .inr ⟨ps2, hy.1.kt (kt (sm2.trans s3)), fun H4 s4 => ⟨_, rfl, ite2 (fun e2 => ?_) (fun e2 => ?_)⟩⟩⟩
            · have e' : lrow (ds.map (·.1)) ps2 = false := by simpa using e2
              rw [e', if_neg Bool.false_ne_true] at kY
              exact bad _ (s3.trans s4) (by unfold isBr; rw [kX, kY])
            have s24 := s3.trans s4
            have eY : lrow (ds.map (·.1)) ps2 = true := by simpa using e2
            rw [eY, if_pos rfl] at kY
            have kn2 := (lrow_knc n ds ps2).mp eY
            have knq : ∀ p ∈ ps2, Kn ds p := kn_of kn2.2 (fun p hp => by have := List.all_eq_true.mp kn2.1 p hp; simpa using this) hy.2
            have hB : isBr n ds (.row ps) (.row ps2) Z = jud n (rowE n ds ps) (rowE n ds ps2) Z := by unfold isBr; rw [kX, kY]
            have oke := rowE_ok hdg.ds knp
            have okg := rowE_ok hdg.ds knq
            have ldH : ∀ H', Same H H' → LD H' l ds := fun H' s => LD.sm ⟨xs, hl, hal⟩ s
            have sm4 := sm2.trans s24
            refine ⟨.ref l, rfl, .ref a, rfl, a, _, 0, x, rfl, rfl, SqT.of (sm4 _ _ ha), rfl, n, ds, l, x, ps, rfl, ldH _ sm4, hdg, hd1, hx.1.kt (kt sm4), knp, fun _ => True.intro, fun H5 r1 s5 h1 => ?_⟩
            have sm5 := sm4.trans s5
            refine ⟨.ref l, rfl, .ref a, rfl, a, _, 1, y, rfl, rfl, SqT.of (sm5 _ _ ha), rfl, n, ds, l, y, ps2, rfl, ldH _ sm5, hdg, hd1, hy.1.kt (kt sm5), knq, fun _ => True.intro, fun H6 r2 s6 h2 => ⟨_, _, rfl, ?_⟩⟩
            have sm6 := sm5.trans s6
            replace h1 := h1.sm s6
            obtain ⟨a1, rfl, e1⟩ := h1
            obtain ⟨a2, rfl, e2'⟩ := h2
            generalize hee : rowE n ds ps = ee at *
            generalize hgg : rowE n ds ps2 = gg at *
            have le : ee.length ≤ 1000 := by rw [oke.len]; omega
            have lg : gg.length ≤ 1000 := by rw [okg.len]; omega
            have le' : (vns ee).length = n := by rw [List.length_map, oke.len]
            have lg' : (vns gg).length = n := by rw [List.length_map, okg.len]
            have fin0 : ∀ H7 b, Same H6 H7 → b = jud n ee gg Z → Q (.bl b) H7 := fun H7 b s e => by rw [e, ← hB]; exact q _ (sm6.trans s)
            refine ⟨.ref a1, rfl, .ref a1, rfl, a1, _, rfl, .inr (SqT.of e1), ?_⟩
            rw [le']
            refine ⟨n, rfl, RgOk.of_le (by decide) (by omega) (by decide) (by omega), fun qq hq => ?_⟩
            have smq := same_new (o := HO.tup (rgV 0 (n : Int))) hq
            have hid : Ef (upd H6 qq (.tup (rgV 0 (n : Int)))) (.ref qq) (idE n) := ⟨qq, rfl, by rw [upd_same, rg_id]⟩
            refine ⟨dE ee, dE (idE n), Ef.dp ⟨a1, rfl, smq _ _ e1⟩, hid.dp, shaped_dE _, shaped_dE _, decide (ee = idE n), congrArg V.bl (eqv_dE _ _), ite2 (fun z1 => ?_) (fun z1 => ?_)⟩
            · exact fin0 _ _ smq (by unfold jud; rw [z1]; rfl)
            refine ⟨.ref a2, rfl, .ref a2, rfl, a2, _, rfl, .inr (SqT.of (smq _ _ e2')), ?_⟩
            rw [lg']
            refine ⟨n, rfl, RgOk.of_le (by decide) (by omega) (by decide) (by omega), fun q2 hq2 => ?_⟩
            have smq2 := same_new (o := HO.tup (rgV 0 (n : Int))) hq2
            have hid2 : Ef (upd (upd H6 qq (.tup (rgV 0 (n : Int)))) q2 (.tup (rgV 0 (n : Int)))) (.ref q2) (idE n) := ⟨q2, rfl, by rw [upd_same, rg_id]⟩
            have s7 := smq.trans smq2
            refine ⟨dE gg, dE (idE n), Ef.dp ⟨a2, rfl, s7 _ _ e2'⟩, hid2.dp, shaped_dE _, shaped_dE _, decide (gg = idE n), congrArg V.bl (eqv_dE _ _), ite2 (fun z2 => ?_) (fun z2 => ?_)⟩
            · exact fin0 _ _ s7 (by unfold jud; rw [z2]; simp)
            have ez1 : decide (ee = idE n) = false := by simpa using z1
            have ez2 : decide (gg = idE n) = false := by simpa using z2
            have he1 : Ef H6 (.ref a1) ee := ⟨a1, rfl, e1⟩
            have he2 : Ef H6 (.ref a2) gg := ⟨a2, rfl, e2'⟩
            generalize upd (upd H6 qq (.tup (rgV 0 (n : Int)))) q2 (.tup (rgV 0 (n : Int))) = H7 at s7
            refine ⟨.ref a1, rfl, .ref a2, rfl, .ref a1, .ref a2, ee, gg, rfl, he1.sm s7, he2.sm s7, fun x hx => by rw [okg.len]; exact oke.lt x hx, le, fun H8 f1 s8 hf1 => ?_⟩
            refine ⟨.ref a2, rfl, .ref a1, rfl, .ref a2, .ref a1, gg, ee, rfl, (he2.sm s7).sm s8, (he1.sm s7).sm s8, fun x hx => by rw [oke.len]; exact okg.lt x hx, lg, fun H9 f2 s9 hf2 => ⟨_, _, rfl, ?_⟩⟩
            have hf1' := hf1.sm s9
            have s79 := s7.trans (s8.trans s9)
            have smA := sm6.trans s79
            have okeg := ok_thn oke okg
            have okge := ok_thn okg oke
            have fin : ∀ H7 b, Same H9 H7 → b = jud n ee gg Z → Q (.bl b) H7 := fun H7 b s e => fin0 _ _ (s79.trans s) e
            have ha9 := smA _ _ ha
            refine ⟨.ref a, rfl, a, _, 2, z, rfl, rfl, SqT.of ha9, rfl, ?_⟩
            -- stills alike, at the end
            have stA : ∀ (R : V → Hp → Prop), (∀ H' b, Same H9 H' → b = decide (stl ee = stl gg) → R (.bl b) H') → tOp (rEqD K) (tCall spStL [] E0 (tCons (tVar 3) tNil)) (tCall spStL [] E0 (tCons (tVar 4) tNil)) [some (.ref l), some (.ref a), some (.ref Dl), some (.ref a1), some (.ref a2), some f1, some f2, none] H9 R := by
              intro R hR
              refine ⟨.ref a1, rfl, .ref a1, ee, rfl, he1.sm s79, le, fun H10 b1 s10 hb1 => ⟨.ref a2, rfl, .ref a2, gg, rfl, (he2.sm s79).sm s10, lg, fun H11 b2 s11 hb2 => ?_⟩⟩
              obtain ⟨c1, rfl, hc1⟩ := hb1.sm s11
              obtain ⟨c2, rfl, hc2⟩ := hb2
              exact ⟨dL (stl ee), dL (stl gg), dp_list hc1, dp_list hc2, shaped_dL _, shaped_dL _, hR _ _ (s10.trans s11) (eqv_dL _ _)⟩
            cases Z with
            | non =>
              cases hz
              refine ⟨rfl, true, rfl, ?_⟩
              refine ⟨f1, rfl, f2, rfl, dE (thn ee gg), dE (thn gg ee), hf1'.dp, hf2.dp, shaped_dE _, shaped_dE _, decide (thn ee gg = thn gg ee), congrArg V.bl (eqv_dE _ _), ite2 (fun z3 => ?_) (fun z3 => ?_)⟩
              · refine ⟨.ref a1, rfl, .ref a1, ee, rfl, he1.sm s79, le, fun H10 b1 s10 hb1 => ⟨.ref a2, rfl, .ref a2, gg, rfl, (he2.sm s79).sm s10, lg, fun H11 b2 s11 hb2 => ?_⟩⟩
                obtain ⟨c1, rfl, hc1⟩ := hb1.sm s11
                obtain ⟨c2, rfl, hc2⟩ := hb2
                refine ⟨dL (stl ee), dL (stl gg), dp_list hc1, dp_list hc2, shaped_dL _, shaped_dL _, fin _ _ (s10.trans s11) ?_⟩
                rw [eqv_dL]; unfold jud; rw [ez1, ez2, z3]; rfl
              · refine fin _ _ (Same.refl _) ?_
                have z3' : decide (thn ee gg = thn gg ee) = false := by simpa using z3
                unfold jud; rw [ez1, ez2, z3']; rfl
            | int i =>
              cases hz
              refine ⟨rfl, false, rfl, ?_⟩
              refine ⟨.ref a, rfl, a, _, 2, .int i, rfl, rfl, SqT.of ha9, rfl, .int i, .ty "int", .type "int", .type "int", true, rfl, .ty _, (Rp.int (CM := CM) (H := H9) i).ty rfl, kit_int (.int i) rfl, true, rfl, ?_⟩
              refine ⟨.ref a, rfl, a, _, 2, .int i, rfl, rfl, SqT.of ha9, rfl, .int i, .ty "bool", .type "int", .type "bool", false, rfl, .ty _, (Rp.int (CM := CM) (H := H9) i).ty rfl, kit_bool (.int i) rfl, false, rfl, ?_⟩
              refine ⟨.ref a, rfl, a, _, 2, .int i, rfl, rfl, SqT.of ha9, rfl, i, 0, rfl, rfl, _, rfl, ite2 (fun z3 => ?_) (fun z3 => ?_)⟩
              · have i0 : i < 0 := of_decide_eq_true z3
                refine fin _ _ (Same.refl _) ?_
                unfold jud; rw [ez1, ez2]
                show false = (true && (true && (decide (stl ee = stl gg) && (decide (0 ≤ i) && _))))
                rw [decide_eq_false (show ¬ 0 ≤ i by omega)]; simp
              have i0 : ¬ i < 0 := fun q => z3 (decide_eq_true q)
              refine ⟨.ref a, rfl, a, _, 2, .int i, rfl, rfl, SqT.of ha9, rfl, .ref a1, rfl, a1, _, rfl, .inr (SqT.of (s79 _ _ e1)), i, ((vns ee).length : Int), rfl, rfl, _, rfl, ite2 (fun z4 => ?_) (fun z4 => ?_)⟩
              · have i1 : ((vns ee).length : Int) ≤ i := of_decide_eq_true z4
                refine fin _ _ (Same.refl _) ?_
                unfold jud; rw [ez1, ez2]
                show false = (true && (true && (decide (stl ee = stl gg) && (decide (0 ≤ i) && (decide (i < (n : Int)) && _)))))
                rw [decide_eq_false (show ¬ i < (n : Int) by omega)]; simp
              have i1 : i < (n : Int) := by
                have : ¬ ((vns ee).length : Int) ≤ i := fun q => z4 (decide_eq_true q)
                omega
              have hi1 : i.toNat < (thn ee gg).length := by rw [okeg.len]; omega
              have hi2 : i.toNat < (thn gg ee).length := by rw [okge.len]; omega
              obtain ⟨b1, rfl, hb1⟩ := hf1'
              obtain ⟨b2, rfl, hb2⟩ := hf2
              have at1 : atI (vns (thn ee gg)) i = some (vn (ap (thn ee gg) i.toNat)) := by
                have := at_vn hi1
                rw [show ((i.toNat : Nat) : Int) = i by omega] at this
                exact this
              have at2 : atI (vns (thn gg ee)) i = some (vn (ap (thn gg ee) i.toNat)) := by
                have := at_vn hi2
                rw [show ((i.toNat : Nat) : Int) = i by omega] at this
                exact this
              have hne : decide (vn (ap (thn ee gg) i.toNat) = vn (ap (thn gg ee) i.toNat)) = decide (ap (thn ee gg) i.toNat = ap (thn gg ee) i.toNat) := by
                rw [decide_eq_decide]
                exact ⟨fun h => Int.ofNat.inj (V.int.inj h), fun h => by rw [h]⟩
              have hj : jud n ee gg (.int i) = (decide (stl ee = stl gg) && !decide (ap (thn ee gg) i.toNat = ap (thn gg ee) i.toNat)) := by
                unfold jud; rw [ez1, ez2]
                show (true && (true && (decide (stl ee = stl gg) && (decide (0 ≤ i) && (decide (i < (n : Int)) && !decide (ap (thn ee gg) i.toNat = ap (thn gg ee) i.toNat)))))) = _
                rw [decide_eq_true (show 0 ≤ i by omega), decide_eq_true i1]; rfl
              refine ⟨.ref b1, rfl, .ref a, rfl, a, _, 2, .int i, rfl, rfl, SqT.of ha9, rfl, b1, _, i, _, rfl, rfl, SqT.of hb1, at1, .ref b2, rfl, .ref a, rfl, a, _, 2, .int i, rfl, rfl, SqT.of ha9, rfl, b2, _, i, _, rfl, rfl, SqT.of hb2, at2, rfl, _, rfl, ite2 (fun z5 => ?_) (fun z5 => ?_)⟩
              · refine ⟨.ref a1, rfl, .ref a1, ee, rfl, he1.sm s79, le, fun H10 b1 s10 hb1 => ⟨.ref a2, rfl, .ref a2, gg, rfl, (he2.sm s79).sm s10, lg, fun H11 b2 s11 hb2 => ?_⟩⟩
                obtain ⟨c1, rfl, hc1⟩ := hb1.sm s11
                obtain ⟨c2, rfl, hc2⟩ := hb2
                refine ⟨dL (stl ee), dL (stl gg), dp_list hc1, dp_list hc2, shaped_dL _, shaped_dL _, fin _ _ (s10.trans s11) ?_⟩
                rw [hne] at z5
                rw [eqv_dL, hj, z5, Bool.and_true]
              · refine fin _ _ (Same.refl _) ?_
                rw [hne] at z5
                have z5' : (!decide (ap (thn ee gg) i.toNat = ap (thn gg ee) i.toNat)) = false := by simpa using z5
                rw [hj, z5', Bool.and_false]
            | oth =>
              obtain ⟨d, hd, hdd, hdi, hnon⟩ := hz
              refine ⟨rfl, false, congrArg V.bl (decide_eq_false hnon), ?_⟩
              have hj : false = jud n ee gg .oth := by unfold jud; rw [ez1, ez2]; rfl
              have hd9 := hd.mono (kx smA)
              cases hb : isB d with
              | true =>
                have hib : isIB d = true := by cases d <;> first | rfl | cases hb
                exact ⟨.ref a, rfl, a, _, 2, z, rfl, rfl, SqT.of ha9, rfl, z, .ty "int", .type (tyOf d), .type "int", true, rfl, .ty _, hd9.ty hdd, (kit_int d hdd).trans (congrArg some hib), true, rfl,
                  .ref a, rfl, a, _, 2, z, rfl, rfl, SqT.of ha9, rfl, z, .ty "bool", .type (tyOf d), .type "bool", true, rfl, .ty _, hd9.ty hdd, (kit_bool d hdd).trans (congrArg some hb), true, rfl, fin _ _ (Same.refl _) hj⟩
              | false =>
                have hib : isIB d = false := isIB_not hb hdi
                exact ⟨.ref a, rfl, a, _, 2, z, rfl, rfl, SqT.of ha9, rfl, z, .ty "int", .type (tyOf d), .type "int", false, rfl, .ty _, hd9.ty hdd, (kit_int d hdd).trans (congrArg some hib), false, rfl, fin _ _ (Same.refl _) hj⟩
end
end EO
end
section
set_option Elab.async false
set_option linter.all false
set_option maxRecDepth 100000
set_option maxHeartbeats 1000000
/-! the law's listing -/
namespace EO
open PySem PySem.Spec PyProof.Rows L2
theorem hu65 {k : Nat} {A : Around} (hr : Room k A) : A.units + 65 < cLine := by have := hr.un; omega
theorem len_expd (e : Eff) (r : List Str) : ∀ (ds : List (Str × Eff)) (F : Lst), (expd ds e r F).length ≤ F.length + ds.length
  | [], F => Nat.le_refl _
  | d :: ds, F => by
    have ih := len_expd e r ds (exp1 e r F d)
    have h1 : (exp1 e r F d).length ≤ F.length + 1 := by
      unfold exp1
      split
      · omega
      · rw [List.length_append]; exact Nat.le_refl _
    show (expd ds e r (exp1 e r F d)).length ≤ F.length + (ds.length + 1)
    omega
theorem len_bf {n : Nat} {ds : List (Str × Eff)} (h : ds.length ≤ 8) : ∀ k, (bf n ds k).length ≤ 1 + 8 * k
  | 0 => Nat.le_refl _
  | k + 1 => by
    have ih := len_bf (n := n) h k
    show (bfs ds k (bf n ds k)).length ≤ _
    unfold bfs
    split
    · rename_i e r _
      have := len_expd e r ds (bf n ds k)
      omega
    · omega
section
variable {P : Program} {w : World} {K : PySem.W.Frag} {mg : Str → Option Value} {base : Heap} {CM CN CS : Addr}
/-- a list of effects as data -/
theorem ef_data {H : Hp} : ∀ {vs : List V} {es : List Eff}, Al (Ef H) vs es → DpAll K H vs (es.map dE)
  | [], [], _ => .nil
  | [], _ :: _, h => absurd h.1 (by simp)
  | _ :: _, [], h => absurd h.1 (by simp)
  | v :: vs, e :: es, h => by
    obtain ⟨v', us, q, r, s⟩ := h.uncons
    cases q
    exact .cons r.dp (ef_data s)
theorem efs_lay : ∀ es : List Eff, PyData.canLayAll0 (es.map dE) = true
  | [] => rfl
  | e :: es => by simp [PyData.canLayAll0, dE, PyData.canLay0, lay_ints, efs_lay es]
theorem efs_depth : ∀ es : List Eff, PyData.depthAll (es.map dE) ≤ 1
  | [] => Nat.zero_le _
  | e :: es => by
    have := efs_depth es
    simp [PyData.depthAll, dE, PyData.depth, depth_ints, this]
theorem efs_shaped (es : List Eff) : SeqAt.shaped (.list (es.map dE)) = true := by
  have := efs_depth es
  simp [SeqAt.shaped, PyData.canLay0, efs_lay, PyData.depth]
  omega
theorem efs_any (e : Eff) (es : List Eff) : ((es.map dE).any fun z => PyData.eqv z (dE e)) = decide (e ∈ es) := by
  rw [Bool.eq_iff_iff, List.any_map, List.any_eq_true, decide_eq_true_eq]
  constructor
  · rintro ⟨g, hg, h⟩
    have h : PyData.eqv (dE g) (dE e) = true := h
    rw [eqv_dE] at h
    rw [← of_decide_eq_true h]
    exact hg
  · intro h
    refine ⟨e, h, ?_⟩
    show PyData.eqv (dE e) (dE e) = true
    rw [eqv_dE]
    simp
def spListed : Sp := fun vs H Q _ => ∃ n ds l, vs = [.ref l, vn 26] ∧ LD H l ds ∧ DG n ds ∧ 1 ≤ ds.length ∧
  ∀ H' a p xs b, H' a = some (.tup [.ref p, .bl b]) → H' p = some (.lst xs) → Al (Prr H') xs (bf n ds 26) → b = decide ((bf n ds 26).length ≤ 26) → Same H H' → Q (.ref a) H'
abbrev sc__law_listedN : List Str := ["_law_deeds_here", "_law_most", "_law_size", "_law_found", "_law_known", "_law_at", "_law_turn", "_law_name", "_law_images", "_law_further"]
theorem sc__law_listed : FnScope sc__law_listedN ["_law_deeds_here", "_law_most"] (defScope (topS 55)) := ⟨rfl, rfl, rfl, by decide +kernel, rfl, by decide +kernel, by decide +kernel⟩
theorem ok__law_listed (D : Dfn K mg "_law_listed" (topS 55)) (T : Txt K mg CM) (c__law_then : Fn P w K mg base 1 "_law_then" spThen) : Fn P w K mg base 2 "_law_listed" spListed := by
  refine fn_by D sc__law_listed (fun _ _ _ _ _ _ us hl => match us, hl with | [_, _], _ => rfl) (fun vs H Q E h => ?_) (fun f cdv A outer s H vs Q E hr h => ?_)
  · obtain ⟨n, ds, l, rfl, _⟩ := h
    rfl
  · obtain ⟨n, ds, l, rfl, ⟨xs0, hl, hal0⟩, hdg, hd1, q⟩ := h
    refine ⟨_, (pss_cons (ps_set (i := 2) sc__law_listed.nd rfl (Or.inl rfl) (pe_callB call_len_seq rfl T.len PySem.boot_len (pa_cons (pe_ix ix_tup (pe_ix ix_list (pv 0) pe_int (fun _ _ => rfl)) pe_int (fun _ _ => rfl)) pa_nil)))
 (pss_cons (ps_par3 (i := 3) (j := 4) (l := 5) rfl sc__law_listed.nd rfl rfl rfl (by decide) (by decide) (by decide) rfl rfl rfl (pa_cons (pe_lst (pa_cons (pe_tup (pa_cons (pe_tupRg rfl rfl T.tuple (prg_1 rfl T.range (pv 2))) (pa_cons (pe_tup pa_nil) pa_nil))) pa_nil)) (pa_cons (pe_lst (pa_cons (pe_tupRg rfl rfl T.tuple (prg_1 rfl T.range (pv 2))) pa_nil)) (pa_cons pe_int pa_nil))) (by rfl))
 (pss_cons (ps_for PassesOwn.never rfl (pi_range1 rfl T.range (pa_cons (pv 1) pa_nil)) (pg_name (i := 6) sc__law_listed.nd rfl (Or.inl rfl))
 (pss_cons (ps_if (pt_cmpR op_eq (pv 5) (pe_callB call_len_seq rfl T.len PySem.boot_len (pa_cons (pv 3) pa_nil)) (nomark _))
 (pss_one (ps_ret (pe_tup (pa_cons (pv 3) (pa_cons pe_bl pa_nil)))))
 pss_nil)
 (pss_cons (ps_for PassesOwn.never rfl (pi_list (pv 0)) (pg_tup (n := 2) rfl (pgs_cons (pg_name (i := 7) sc__law_listed.nd rfl (Or.inl rfl)) (pgs_cons (pg_name (i := 8) sc__law_listed.nd rfl (Or.inl rfl)) pgs_nil)))
 (pss_cons (ps_set (i := 9) sc__law_listed.nd rfl (Or.inl rfl) (pe_f c__law_then hr (by first | decide | omega) rfl (pa_cons (pe_ix ix_tup (pe_ix ix_list (pv 3) (pv 5) (fun _ _ => rfl)) pe_int (fun _ _ => rfl)) (pa_cons (pv 8) pa_nil))))
 (pss_one (ps_if (pt_cmpR (op_notInD (hu65 hr)) (pv 9) (pv 4) (by rfl))
 (pss_cons (ps_expr (pe_bm PySem.F.plainAttrs_list PySem.F.slot_list_append PySem.F.type_list_append mt_append (pv 4) (pa_cons (pv 9) pa_nil)))
 (pss_one (ps_expr (pe_bm PySem.F.plainAttrs_list PySem.F.slot_list_append PySem.F.type_list_append mt_append (pv 3) (pa_cons (pe_tup (pa_cons (pv 9) (pa_cons (pe_op op_catA (pe_ix ix_tup (pe_ix ix_list (pv 3) (pv 5) (fun _ _ => rfl)) pe_int (fun _ _ => rfl)) (pe_tup (pa_cons (pv 7) pa_nil))) pa_nil))) pa_nil)))))
 pss_nil))))
 (pss_one (ps_set (i := 5) sc__law_listed.nd rfl (Or.inl rfl) (pe_op op_add (pv 5) pe_int))))))
 (pss_one (ps_ret (pe_tup (pa_cons (pv 3) (pa_cons (pe_cmpR op_eq (pv 5) (pe_callB call_len_seq rfl T.len PySem.boot_len (pa_cons (pv 3) pa_nil)) (nomark _)) pa_nil)))))))), ?_⟩
    have hn6 := hdg.hi
    have hfew := hdg.few
    have hxl := hal0.1
    obtain ⟨d0, dr, rfl⟩ : ∃ d0 dr, ds = d0 :: dr := by
      cases ds with
      | nil => exact absurd hd1 (by simp)
      | cons d0 dr => exact ⟨d0, dr, rfl⟩
    obtain ⟨x0, xr, rfl, ⟨t0, y0, rfl, g1, ⟨yy, rfl, g2⟩⟩, _⟩ := hal0.uncons
    have len0 : (vns d0.2).length = n := by rw [List.length_map, (hdg.ok d0 (List.mem_cons_self ..)).len]
    have rgok : RgOk 0 (n : Int) := RgOk.of_le (by decide) (by omega) (by decide) (by omega)
    refine ⟨.ref l, rfl, l, _, 0, .ref t0, rfl, rfl, SqL.of hl, atI_nat (j := 0) rfl, t0, _, 1, .ref yy, rfl, rfl, SqT.of g1, rfl, yy, _, rfl, .inr (SqT.of g2), ?_⟩
    rw [len0]
    generalize hds : d0 :: dr = ds at *
    refine ⟨vn n, rfl, n, rfl, rgok, fun ni hni => ?_⟩
    rw [rg_id]
    refine ⟨Nat.zero_le _, fun r0 hr0 => ⟨by show 2 ≤ sizeLine; decide, fun pr hpr => ⟨by show 1 ≤ sizeLine; decide, fun p hp => ⟨vn n, rfl, n, rfl, rgok, fun n2 hn2 => ?_⟩⟩⟩⟩
    rw [rg_id]
    refine ⟨by show 1 ≤ sizeLine; decide, fun kp hkp => ⟨_, _, _, rfl, ?_⟩⟩
    have smn := same_new (o := HO.tup (vns (idE n))) hni
    have sm0 := same_new (o := HO.tup []) hr0
    have smr := same_new (o := HO.tup [V.ref ni, .ref r0]) hpr
    have smp := same_new (o := HO.lst [V.ref pr]) hp
    have sm2 := same_new (o := HO.tup (vns (idE n))) hn2
    have smk := same_new (o := HO.lst [V.ref n2]) hkp
    have hp0 : H p = none := none_back ((smn.trans sm0).trans smr) hp
    have smP2 := (((smn.trans sm0).trans smr).trans smp).trans sm2
    have hk0 : H kp = none := none_back smP2 hkp
    have npk : p ≠ kp := ne_of_none (sm2 p _ upd_same) hkp
    generalize hHA : upd (upd (upd (upd (upd (upd H ni (.tup (vns (idE n)))) r0 (.tup [])) pr (.tup [.ref ni, .ref r0])) p (.lst [.ref pr])) n2 (.tup (vns (idE n)))) kp (.lst [.ref n2]) = HA
    have e0 : HA p = some (.lst [.ref pr]) := by rw [← hHA]; exact smk _ _ (sm2 _ _ upd_same)
    have e1 : HA kp = some (.lst [.ref n2]) := by rw [← hHA]; exact upd_same
    have e2 : HA pr = some (.tup [.ref ni, .ref r0]) := by rw [← hHA]; exact smk _ _ (sm2 _ _ (smp _ _ upd_same))
    have e3 : HA ni = some (.tup (vns (idE n))) := by rw [← hHA]; exact smk _ _ (sm2 _ _ (smp _ _ (smr _ _ (sm0 _ _ upd_same))))
    have e4 : HA r0 = some (.tup []) := by rw [← hHA]; exact smk _ _ (sm2 _ _ (smp _ _ (smr _ _ upd_same)))
    have e5 : HA n2 = some (.tup (vns (idE n))) := by rw [← hHA]; exact smk _ _ upd_same
    have smHA : Same H HA := by rw [← hHA]; exact smP2.trans smk
    have hw : ∀ j, ∀ q ∈ bf n ds j, Ok n q.1 := fun j => allB (p := fun q => Ok n q.1) n ds (ok_id n) (fun e r d h hd => ok_thn h (hdg.ok d hd)) j
    refine ⟨vn 26, rfl, 26, rfl, by decide, by decide, for_it walk_range (fun k σ H' => ∃ x6 x7 x8 x9 xs ks, σ = [some (.ref l), some (vn 26), some (vn n), some (.ref p), some (.ref kp), some (vn k), x6, x7, x8, x9] ∧ Same H H' ∧ H' p = some (.lst xs) ∧ Al (Prr H') xs (bf n ds k) ∧ H' kp = some (.lst ks) ∧ Al (Ef H') ks (fsts (bf n ds k)) ∧ k ≤ (bf n ds k).length)
      ⟨_, _, _, _, [.ref pr], [.ref n2], rfl, smHA, e0, Al.cons ⟨pr, .ref ni, .ref r0, rfl, e2, ⟨ni, rfl, e3⟩, ⟨r0, rfl, e4⟩⟩ Al.nil, e1, Al.cons ⟨n2, rfl, e5⟩ Al.nil, Nat.zero_le _⟩ (fun _ _ _ _ _ => True.intro) ?_ ?_⟩
    · rintro k y σ H1 H2 hk ⟨x6, x7, x8, x9, xs, ks, rfl, sm, ep, hal, ek, hks, hkl⟩ ⟨rfl, rfl⟩
      have hk26 : k < 26 := by simpa using hk
      refine ⟨vn k, rfl, .ref p, rfl, p, xs, rfl, .inl (SqL.of ep), rfl, _, rfl, ite2 (fun z => ?_) (fun z => ?_)⟩
      · have hlen : (bf n ds k).length = k := by
          have := V.int.inj (of_decide_eq_true z)
          have := hal.1
          omega
        have eb : bf n ds 26 = bf n ds k := by
          have := bf_stop (Nat.le_of_eq hlen) (26 - k)
          rw [show k + (26 - k) = 26 by omega] at this
          exact this
        refine ⟨.ref p, rfl, by show 2 ≤ sizeLine; decide, fun qa hqa => ?_⟩
        have smq := same_new (o := HO.tup [V.ref p, .bl true]) hqa
        refine q _ qa p xs true upd_same (smq _ _ ep) ?_ ?_ (sm.trans smq)
        · rw [eb]; exact hal.mono fun _ _ h => h.kt (kt smq)
        · rw [eb, hlen, decide_eq_true (by omega)]
      · have hlt : k < (bf n ds k).length := by
          have : (k : Int) ≠ (xs.length : Int) := fun q => z (decide_eq_true (congrArg V.int q))
          have := hal.1
          omega
        obtain ⟨⟨e, r⟩, her⟩ : ∃ q, (bf n ds k)[k]? = some q := ⟨_, List.getElem?_eq_getElem hlt⟩
        have oke : Ok n e := hw k _ (List.mem_of_getElem? her)
        have hr26 : r.length ≤ k := len_row n ds k _ (List.mem_of_getElem? her)
        have eS : bf n ds (k + 1) = expd ds e r (bf n ds k) := by
          show bfs ds k (bf n ds k) = _
          unfold bfs
          rw [her]
        have hlb := len_bf (n := n) hfew k
        refine ⟨.ref l, rfl, l, rfl, ⟨_, SqL.of (sm _ _ hl)⟩, for_it walk_list (fun j σ H' => ∃ x7 x8 x9 xs ks, σ = [some (.ref l), some (vn 26), some (vn n), some (.ref p), some (.ref kp), some (vn k), some (.int (0 + (k : Int))), x7, x8, x9] ∧ Same H H' ∧ H' p = some (.lst xs) ∧ Al (Prr H') xs (expd (ds.take j) e r (bf n ds k)) ∧ H' kp = some (.lst ks) ∧ Al (Ef H') ks (fsts (expd (ds.take j) e r (bf n ds k))))
          ⟨_, _, _, xs, ks, rfl, sm, ep, hal, ek, hks⟩ (fun i σ H' _ ⟨_, _, _, _, _, _, s, _⟩ => SqL.of (s _ _ hl)) ?_ ?_⟩
        · rintro j y σ H3 H4 hj ⟨x7, x8, x9, xs, ks, rfl, sm3, ep3, hal3, ek3, hks3⟩ ⟨rfl, hy⟩
          obtain ⟨d, hd, dp, yv, rfl, f1, ⟨yi, rfl, f2⟩⟩ := hal0.at' hy
          have okd := hdg.ok d (List.mem_of_getElem? hd)
          have stp : expd (ds.take (j + 1)) e r (bf n ds k) = exp1 e r (expd (ds.take j) e r (bf n ds k)) d := by
            rw [List.take_add_one, hd]
            exact expd_snoc _ d e r _
          have hle := len_expd e r (ds.take j) (bf n ds k)
          have hj8 : (ds.take j).length ≤ 8 := by rw [List.length_take]; omega
          have hk3 := (growD e r (ds.take j) (bf n ds k)).at her
          obtain ⟨vk, hvk, t1, xe, yr, rfl, p1, p2, p3⟩ := hal3.at hk3
          refine ⟨dp, _, rfl, SqT.of (sm3 _ _ f1), rfl, _, _, rfl, _, _, rfl, rfl, ?_⟩
          refine ⟨.ref p, rfl, vn k, rfl, p, xs, (k : Int), _, rfl, rfl, SqL.of ep3, atI_nat hvk, t1, _, 0, xe, rfl, rfl, SqT.of p1, rfl, .ref yi, rfl, xe, .ref yi, e, d.2, rfl, p2, ⟨yi, rfl, sm3 _ _ f2⟩, fun x hx => by rw [okd.len]; exact oke.lt x hx, by rw [oke.len]; omega, fun H5 fv sm5 hf => ?_⟩
          have sm35 := sm3.trans sm5
          have ep5 := sm5 _ _ ep3
          have ek5 := sm5 _ _ ek3
          have hal5 := hal3.mono fun _ _ h => Prr.kt h (kt sm5)
          have hks5 := hks3.mono fun _ _ h => Ef.kt h (kt sm5)
          refine ⟨fv, rfl, .ref kp, rfl, dE (thn e d.2), (fsts (expd (ds.take j) e r (bf n ds k))).map dE, hf.dp, .lst (SqL.of ek5) (ef_data hks5), shaped_dE _, efs_shaped _, !decide (thn e d.2 ∈ fsts (expd (ds.take j) e r (bf n ds k))), congrArg V.bl (by rw [efs_any]), ite2 (fun z2 => ?_) (fun z2 => ?_)⟩
          · have hnew : thn e d.2 ∉ fsts (expd (ds.take j) e r (bf n ds k)) := by simpa using z2
            have eN : exp1 e r (expd (ds.take j) e r (bf n ds k)) d = expd (ds.take j) e r (bf n ds k) ++ [(thn e d.2, r ++ [d.1])] := if_neg hnew
            have hkl2 : ks.length = (expd (ds.take j) e r (bf n ds k)).length := by rw [hks3.1]; unfold fsts; rw [List.length_map]
            refine ⟨.ref kp, rfl, .inl ⟨rfl, _, SqL.of ek5⟩, fv, rfl, kp, ks, fv, rfl, rfl, ek5, szl (by omega), ?_⟩
            generalize hH6 : upd H5 kp (.lst (ks ++ [fv])) = H6
            have kt6 : KT H5 H6 := by rw [← hH6]; exact kt_lst ek5
            have sm6 : Same H H6 := by rw [← hH6]; exact same_at sm35 hk0
            have ep6 : H6 p = some (.lst xs) := by rw [← hH6, upd_ne npk]; exact ep5
            have ek6 : H6 kp = some (.lst (ks ++ [fv])) := by rw [← hH6]; exact upd_same
            have kt36 := (kt sm5).trans kt6
            obtain ⟨ra, rfl, hra⟩ := p3.kt kt36
            refine ⟨.ref p, rfl, .inl ⟨rfl, _, SqL.of ep6⟩, fv, rfl, .ref p, rfl, vn k, rfl, p, xs, (k : Int), _, rfl, rfl, SqL.of ep6, atI_nat hvk, t1, _, 1, .ref ra, rfl, rfl, SqT.of (kt36 _ _ p1), rfl, .str d.1, rfl, by show 1 ≤ sizeLine; decide, fun nt hnt => ?_⟩
            have smt := same_new (o := HO.tup [V.str d.1]) hnt
            have cont : ∀ H7 rv, Same (upd H6 nt (.tup [.str d.1])) H7 → Rw H7 rv (r ++ [d.1]) → 2 ≤ sizeLine ∧ ∀ q, H7 q = none → rAppend (.ref p) [.ref q] (upd H7 q (.tup [fv, rv])) fun x H8 => ∃ x7 x8 x9 xs ks, [some (V.ref l), some (vn 26), some (vn n), some (V.ref p), some (V.ref kp), some (vn k), some (.int (0 + (k : Int))), some (V.str d.1), some (V.ref yi), some fv] = [some (.ref l), some (vn 26), some (vn n), some (.ref p), some (.ref kp), some (vn k), some (.int (0 + (k : Int))), x7, x8, x9] ∧ Same H H8 ∧ H8 p = some (.lst xs) ∧ Al (Prr H8) xs (expd (ds.take (j + 1)) e r (bf n ds k)) ∧
                H8 kp = some (.lst ks) ∧ Al (Ef H8) ks (fsts (expd (ds.take (j + 1)) e r (bf n ds k))) := by
              intro H7 rv sm7 hrv
              refine ⟨by decide, fun q hq => ?_⟩
              have smq := same_new (o := HO.tup [fv, rv]) hq
              have s68 := (smt.trans sm7).trans smq
              have ep8 := s68 _ _ ep6
              have k9 := kt_lst (o := HO.lst (xs ++ [.ref q])) ep8
              have ktall := (kt6.trans (kt s68)).trans k9
              refine ⟨p, xs, .ref q, rfl, rfl, ep8, szl (by have := hal3.1; omega), _, _, _, xs ++ [.ref q], ks ++ [fv], rfl, same_at (sm6.trans s68) hp0, upd_same, ?_, ?_, ?_⟩
              · rw [stp, eN]
                exact Al.snoc (hal5.mono fun _ _ h => h.kt ktall) ⟨q, fv, rv, rfl, k9 _ _ upd_same, hf.kt ktall, (hrv.sm smq).kt k9⟩
              · rw [upd_ne npk.symm]; exact s68 _ _ ek6
              · rw [stp, eN, fsts_snoc]
                exact Al.snoc (hks5.mono fun _ _ h => h.kt ktall) (hf.kt ktall)
            refine ⟨ra, nt, vss r, [.str d.1], rfl, rfl, SqT.of (smt _ _ hra), SqT.of upd_same, sz (by rw [List.length_map]; show r.length + 1 ≤ _; omega), fun hr0 => ?_, (fun _ z => nomatch z), fun hr0 _ q hq => ?_⟩
            · refine cont _ _ (Same.refl _) ⟨nt, rfl, ?_⟩
              rw [upd_same]
              have : r = [] := List.map_eq_nil_iff.mp hr0
              rw [this]; rfl
            · refine cont _ _ (same_new hq) ⟨q, rfl, ?_⟩
              rw [upd_same, vss, vss, List.map_append]; rfl
          · have hold : thn e d.2 ∈ fsts (expd (ds.take j) e r (bf n ds k)) := by simpa using z2
            have eN : exp1 e r (expd (ds.take j) e r (bf n ds k)) d = expd (ds.take j) e r (bf n ds k) := if_pos hold
            refine ⟨_, _, _, xs, ks, rfl, sm35, ep5, ?_, ek5, ?_⟩
            · rw [stp, eN]; exact hal5
            · rw [stp, eN]; exact hks5
        · rintro σ H3 ⟨x7, x8, x9, xs, ks, rfl, sm3, ep3, hal3, ek3, hks3⟩
          rw [hal0.1, List.take_length, ← eS] at hal3 hks3
          refine ⟨vn k, rfl, (k : Int), 1, rfl, rfl, _, _, _, _, xs, ks, rfl, sm3, ep3, hal3, ek3, hks3, ?_⟩
          have := (growS ds k (bf n ds k)).len
          have h9 : (bf n ds (k + 1)).length = (bfs ds k (bf n ds k)).length := rfl
          omega
    · rintro σ H1 ⟨x6, x7, x8, x9, xs, ks, rfl, sm, ep, hal, ek, hks, hkl⟩
      refine ⟨.ref p, rfl, vn 26, rfl, .ref p, rfl, p, xs, rfl, .inl (SqL.of ep), rfl, by show 2 ≤ sizeLine; decide, fun qa hqa => ?_⟩
      have smq := same_new (o := HO.tup [V.ref p, .bl (decide (vn 26 = V.int xs.length))]) hqa
      refine q _ qa p xs _ upd_same (smq _ _ ep) (hal.mono fun _ _ h => h.kt (kt smq)) ?_ (sm.trans smq)
      rw [decide_eq_decide]
      have h1 := hal.1
      constructor
      · intro h
        have := V.int.inj h
        have h2 : (bf n ds (26 : Int).toNat).length = (bf n ds 26).length := rfl
        omega
      · intro h
        have h2 : (bf n ds (26 : Int).toNat).length = (bf n ds 26).length := rfl
        have h3 : (26 : Int).toNat = 26 := rfl
        have : xs.length = 26 := by omega
        rw [this]; rfl
end
end EO
end
section
set_option Elab.async false
set_option linter.all false
set_option maxRecDepth 100000
set_option maxHeartbeats 1000000
/-! the law's first breach, honesty -/
namespace EO
open PySem PySem.Spec PyProof.Rows L2
/-- where two differ -/
def difs (e g : Eff) (k : Nat) : List Nat := (List.range k).filter fun i => decide (ap g i ≠ ap e i)
theorem difs_step (e g : Eff) (i : Nat) : difs e g (i + 1) = difs e g i ++ (if ap g i ≠ ap e i then [i] else []) := by
  unfold difs
  rw [List.range_succ, List.filter_append]
  congr 1
  by_cases h : ap g i ≠ ap e i
  · simp [h]
  · simp [h]
theorem difs_head (e g : Eff) : (difs e g e.length).head? = unl e g := by
  unfold difs unl
  rw [List.head?_filter]
theorem cutV_mid (xs : List V) (i j : Nat) (h1 : i ≤ j) (h2 : j ≤ xs.length) : cutV xs (some (i : Int)) (some (j : Int)) = (xs.drop i).take (j - i) := by
  unfold cutV
  rw [HT.sIx_nat, HT.sIx_nat, Nat.min_eq_left h2, Nat.min_eq_left (Nat.le_trans h1 h2)]
section
variable {P : Program} {w : World} {K : PySem.W.Frag} {mg : Str → Option Value} {base : Heap} {CM CN CS : Addr}
def spLFB : Sp := fun vs H Q _ => ∃ n p xs F, vs = [.ref p] ∧ H p = some (.lst xs) ∧ Al (Prr H) xs F ∧ (∀ q ∈ F, Ok n q.1) ∧ n ≤ 1000 ∧ F.length ≤ 1000 ∧ ∀ H' v b, FBr F b → BrR H' v b → Same H H' → Q v H'
abbrev sc__law_first_breachN : List Str := ["_law_listed_here", "_law_later", "_law_two", "_law_one", "_law_row", "_law_first", "_law_second", "_law_apart", "_law_state", "_law_image"]
theorem sc__law_first_breach : FnScope sc__law_first_breachN ["_law_listed_here"] (defScope (topS 60)) := ⟨rfl, rfl, rfl, by decide +kernel, rfl, by decide +kernel, by decide +kernel⟩
theorem ok__law_first_breach (D : Dfn K mg "_law_first_breach" (topS 60)) (T : Txt K mg CM) (c__law_then : Fn P w K mg base 1 "_law_then" spThen) (c__law_stills : Fn P w K mg base 1 "_law_stills" spStL) : Fn P w K mg base 2 "_law_first_breach" spLFB := by
  refine fn_by D sc__law_first_breach (fun _ _ _ _ _ _ us hl => match us, hl with | [_], _ => rfl) (fun vs H Q E h => ?_) (fun f cdv A outer s H vs Q E hr h => ?_)
  · obtain ⟨n, p, xs, F, rfl, _⟩ := h
    rfl
  · obtain ⟨n, p, xs, F, rfl, hp, hal, hok, hn, hF, q⟩ := h
    refine ⟨_, (pss_cons (ps_for PassesOwn.never rfl (pi_range2 rfl T.range (pa_cons pe_int (pa_cons (pe_callB call_len_seq rfl T.len PySem.boot_len (pa_cons (pv 0) pa_nil)) pa_nil))) (pg_name (i := 1) sc__law_first_breach.nd rfl (Or.inl rfl))
 (pss_cons (ps_set (i := 2) sc__law_first_breach.nd rfl (Or.inl rfl) (pe_ix ix_tup (pe_ix ix_list (pv 0) (pv 1) (fun _ _ => rfl)) pe_int (fun _ _ => rfl)))
 (pss_one (ps_for PassesOwn.never rfl (pi_list (pe_slice sl_list (pv 0) (po_some pe_int) (po_some (pv 1)))) (pg_tup (n := 2) rfl (pgs_cons (pg_name (i := 3) sc__law_first_breach.nd rfl (Or.inl rfl)) (pgs_cons (pg_name (i := 4) sc__law_first_breach.nd rfl (Or.inl rfl)) pgs_nil)))
 (pss_cons (ps_asg (pe_tup (pa_cons (pe_f c__law_then hr (by first | decide | omega) rfl (pa_cons (pv 3) (pa_cons (pv 2) pa_nil))) (pa_cons (pe_f c__law_then hr (by first | decide | omega) rfl (pa_cons (pv 2) (pa_cons (pv 3) pa_nil))) pa_nil))) (pg_tup (n := 2) rfl (pgs_cons (pg_name (i := 5) sc__law_first_breach.nd rfl (Or.inl rfl)) (pgs_cons (pg_name (i := 6) sc__law_first_breach.nd rfl (Or.inr rfl)) pgs_nil))))
 (pss_one (ps_if (pt_cmpR op_ne (pe_cmpR (op_eqD hr.units) (pv 5) (pv 6) (nomark _)) (pe_cmpR (op_eqD hr.units) (pe_f c__law_stills hr (by first | decide | omega) rfl (pa_cons (pv 3) pa_nil)) (pe_f c__law_stills hr (by first | decide | omega) rfl (pa_cons (pv 2) pa_nil)) (nomark _)) (nomark _))
 (pss_cons (ps_setLc (i := 7) (own := [("_law_state", 8), ("_law_image", 9)]) rfl sc__law_first_breach.nd rfl rfl (sw_true rfl rfl rfl (by decide +kernel)) (pi_enumT rfl T.enumerate (pa_cons (pv 5) pa_nil)) (blkOk_by (N := sc__law_first_breachN) (sc := defScope (topS 60)) (by decide +kernel)) (fun _ _ _ _ _ => (pg_tupC (K := K) (n := 2) rfl rfl (pgs_cons (pg_name (i := 8) sc__law_first_breach.nd rfl (Or.inl rfl)) (pgs_cons (pg_name (i := 9) sc__law_first_breach.nd rfl (Or.inl rfl)) pgs_nil)))) (fun _ _ _ _ _ => (pts_one (pt_cmpR op_ne (pe_ix (ix_tup : IxR _ (rIxT K)) (pv 6) (pv 8) (fun _ _ => rfl)) (pv 9) (nomark _)))) (fun _ _ _ _ _ => (pv 8)))
 (pss_one (ps_ret (pe_tup (pa_cons (pv 4) (pa_cons (pe_ix ix_tup (pe_ix ix_list (pv 0) (pv 1) (fun _ _ => rfl)) pe_int (fun _ _ => rfl)) (pa_cons (pe_ix ix_list (pe_op op_cat (pv 7) (pe_lst (pa_cons pe_non pa_nil))) pe_int (fun _ _ => rfl)) pa_nil)))))))
 pss_nil)))))))
 (pss_one (ps_ret pe_non))), ?_⟩
    have hxF : xs.length = F.length := hal.1
    refine ⟨.ref p, rfl, p, xs, rfl, .inl (SqL.of hp), 2, (xs.length : Int), rfl, ⟨by decide, by decide, by omega, by omega⟩, for_it walk_range (fun t σ H' => ∃ x1 x2 x3 x4 x5 x6, σ = [some (.ref p), x1, x2, x3, x4, x5, x6, none, none, none] ∧ Same H H' ∧ NoBr F (2 + t) 1) ⟨_, _, _, _, _, _, rfl, Same.refl _, ?_⟩ (fun _ _ _ _ _ => True.intro) ?_ ?_⟩
    · intro i' j' e g r q h1 h2 h3
      omega
    · rintro t y σ H3 H4 ht ⟨x1, x2, x3, x4, x5, x6, rfl, sm3, hnb⟩ ⟨rfl, rfl⟩
      have htF : 2 + t < F.length := by omega
      obtain ⟨⟨g, q'⟩, hj⟩ : ∃ q, F[2 + t]? = some q := ⟨_, List.getElem?_eq_getElem htF⟩
      obtain ⟨vj, hvj, tj, xg, yq, rfl, j1, j2, j3⟩ := hal.at hj
      have okg : Ok n g := hok _ (List.mem_of_getElem? hj)
      have atg : atI xs (2 + (t : Int)) = some (.ref tj) := atI_nat (j := 2 + t) hvj
      have lg : g.length ≤ 1000 := by have := okg.len; omega
      have hp3 := sm3 _ _ hp
      refine ⟨.ref p, rfl, _, rfl, p, xs, _, _, rfl, rfl, SqL.of hp3, atg, tj, _, 0, xg, rfl, rfl, SqT.of (sm3 _ _ j1), rfl, ?_⟩
      refine ⟨.ref p, rfl, 1, rfl, _, rfl, _, rfl, p, xs, rfl, SqL.of hp3, fun sl hsl => ?_⟩
      have ecut : cutV xs (some 1) (some (2 + (t : Int))) = (xs.drop 1).take (1 + t) := (cutV_mid xs 1 (2 + t) (by omega) (by omega)).trans (by rw [show 2 + t - 1 = 1 + t by omega])
      have sms := same_new (o := HO.lst (cutV xs (some 1) (some (2 + (t : Int))))) hsl
      have hsl2 : upd H4 sl (.lst (cutV xs (some 1) (some (2 + (t : Int))))) sl = some (.lst ((xs.drop 1).take (1 + t))) := by rw [upd_same, ecut]
      have hzl : ((xs.drop 1).take (1 + t)).length = 1 + t := by rw [List.length_take, List.length_drop]; omega
      generalize upd H4 sl (.lst (cutV xs (some 1) (some (2 + (t : Int))))) = H4' at sms hsl2
      have smA := sm3.trans sms
      refine ⟨sl, rfl, ⟨_, SqL.of hsl2⟩, for_it walk_list (fun s σ H' => ∃ x3 x4 x5 x6, σ = [some (.ref p), some (.int (2 + (t : Int))), some xg, x3, x4, x5, x6, none, none, none] ∧ Same H4' H' ∧ NoBr F (2 + t) (1 + s)) ⟨_, _, _, _, rfl, Same.refl _, hnb⟩ (fun i σ H' _ ⟨_, _, _, _, _, s, _⟩ => SqL.of (s _ _ hsl2)) ?_ ?_⟩
      · rintro s y σ H5 H6 hs ⟨x3, x4, x5, x6, rfl, sm5, hnb2⟩ ⟨rfl, hy⟩
        have hst : 1 + s < 2 + t := by omega
        obtain ⟨⟨e, r⟩, hi⟩ : ∃ q, F[1 + s]? = some q := ⟨_, List.getElem?_eq_getElem (by omega)⟩
        obtain ⟨vi, hvi, ti, xe, yr, rfl, i1, i2, i3⟩ := hal.at hi
        have hy2 : y = .ref ti := by
          rw [List.getElem?_take_of_lt (by omega), List.getElem?_drop, hvi] at hy
          exact (Option.some.inj hy).symm
        subst hy2
        have oke : Ok n e := hok _ (List.mem_of_getElem? hi)
        have le : e.length ≤ 1000 := by have := oke.len; omega
        have sm6 := smA.trans sm5
        refine ⟨ti, _, rfl, SqT.of (sm6 _ _ i1), rfl, _, _, rfl, _, _, rfl, rfl, ?_⟩
        refine ⟨xe, rfl, xg, rfl, xe, xg, e, g, rfl, i2.sm sm6, j2.sm sm6, fun x hx => by rw [okg.len]; exact oke.lt x hx, le, fun H7 f1 s7 h7 => ?_⟩
        refine ⟨xg, rfl, xe, rfl, xg, xe, g, e, rfl, (j2.sm sm6).sm s7, (i2.sm sm6).sm s7, fun x hx => by rw [oke.len]; exact okg.lt x hx, lg, fun H8 f2 s8 h8 => ⟨by show 2 ≤ sizeLine; decide, fun tt htt => ?_⟩⟩
        have smt := same_new (o := HO.tup [f1, f2]) htt
        refine ⟨tt, _, rfl, SqT.of upd_same, rfl, _, _, rfl, _, _, rfl, rfl, ?_⟩
        generalize upd H8 tt (.tup [f1, f2]) = H9 at smt
        have s69 := (s7.trans s8).trans smt
        have h79 := (h7.sm s8).sm smt
        have h89 := h8.sm smt
        have sm9 := sm6.trans s69
        have okeg := ok_thn oke okg
        have okge := ok_thn okg oke
        refine ⟨f1, rfl, f2, rfl, dE (thn e g), dE (thn g e), h79.dp, h89.dp, shaped_dE _, shaped_dE _, xe, rfl, xe, e, rfl, i2.sm sm9, le, fun H10 b1 s10 hb1 => ⟨xg, rfl, xg, g, rfl, (j2.sm sm9).sm s10, lg, fun H11 b2 s11 hb2 => ?_⟩⟩
        obtain ⟨c1, rfl, hc1⟩ := hb1.sm s11
        obtain ⟨c2, rfl, hc2⟩ := hb2
        have hbk : (!decide (V.bl (PyData.eqv (dE (thn e g)) (dE (thn g e))) = V.bl (PyData.eqv (dL (stl e)) (dL (stl g))))) = brk e g := by
          rw [eqv_dE, eqv_dL]
          unfold brk
          cases decide (thn e g = thn g e) <;> cases decide (stl e = stl g) <;> rfl
        refine ⟨dL (stl e), dL (stl g), dp_list hc1, dp_list hc2, shaped_dL _, shaped_dL _, rfl, brk e g, congrArg V.bl hbk, ite2 (fun z => ?_) (fun z => ?_)⟩
        · have s911 := s10.trans s11
          obtain ⟨fa1, rfl, hf1⟩ := h79.sm s911
          obtain ⟨fa2, rfl, hf2⟩ := h89.sm s911
          have sm11 := sm9.trans s911
          refine ⟨.ref fa1, rfl, fa1, _, rfl, SqT.of hf1, fun Dl hD => lc_it walk_enumT (fun i H' => Same H11 H' ∧ H' Dl = some (.lst (vns (difs (thn e g) (thn g e) i)))) ⟨same_new hD, upd_same⟩ (fun _ _ _ p => SqT.of (p.1 _ _ hf1)) ?_ ?_⟩
          · rintro i y H12 H13 hi2 ⟨sm12, eD⟩ ⟨t3, x1, x2, rfl, ht3, rfl, hx1, hy3⟩
            cases hx1
            obtain ⟨hie, rfl⟩ := vns_at hy3
            have smt3 := same_new (o := HO.tup [V.int (i : Nat), vn (ap (thn e g) i)]) ht3
            have nt : Dl ≠ t3 := ne_of_none eD ht3
            have eD2 := smt3 _ _ eD
            have hig : i < (thn g e).length := by rw [okge.len, ← okeg.len]; exact hie
            refine ⟨t3, _, rfl, SqT.of upd_same, rfl, _, _, rfl, _, _, rfl, rfl, rfl, ?_⟩
            refine ⟨.ref fa2, rfl, _, rfl, fa2, _, (i : Int), _, rfl, rfl, SqT.of (smt3 _ _ (sm12 _ _ hf2)), at_vn hig, _, rfl, rfl, _, rfl, ite2 (fun z3 => ?_) (fun z3 => ?_)⟩
            · have hne : ap (thn g e) i ≠ ap (thn e g) i := fun q => by rw [q] at z3; simp at z3
              refine ⟨_, rfl, _, eD2, ?_, same_at (sm12.trans smt3) hD, ?_⟩
              · rw [List.length_map]
                refine Nat.lt_of_le_of_lt (List.length_filter_le _ _) ?_
                rw [List.length_range]
                have := okeg.len
                exact szl (by omega)
              · rw [upd_same, difs_step, if_pos hne]
                exact congrArg (fun l => some (HO.lst l)) (vns_snoc _ i)
            · have hne : ¬ ap (thn g e) i ≠ ap (thn e g) i := fun q => by
                have : (!decide (vn (ap (thn g e) i) = vn (ap (thn e g) i))) = false := by simpa using z3
                have h1 : vn (ap (thn g e) i) = vn (ap (thn e g) i) := by simpa using this
                exact q (Int.ofNat.inj (V.int.inj h1))
              refine ⟨sm12.trans smt3, ?_⟩
              rw [eD2, difs_step, if_neg hne, List.append_nil]
          · rintro H12 ⟨sm12, eD⟩
            rw [List.length_map] at eD
            have sm13 := sm11.trans sm12
            have hp12 := sm13 _ _ hp
            refine ⟨yr, rfl, .ref p, rfl, _, rfl, p, xs, _, _, rfl, rfl, SqL.of hp12, atg, tj, _, 1, yq, rfl, rfl, SqT.of (sm13 _ _ j1), rfl, .ref Dl, rfl, by show 1 ≤ sizeLine; decide, fun nl hnl => ⟨Dl, nl, _, _, rfl, rfl, same_new hnl _ _ eD, upd_same, ?_, fun cl hcl => ?_⟩⟩
            · rw [List.length_map]
              have h1 : (difs (thn e g) (thn g e) (thn e g).length).length ≤ (thn e g).length := by
                refine Nat.le_trans (List.length_filter_le _ _) ?_
                rw [List.length_range]; exact Nat.le_refl _
              have := okeg.len
              exact sz (by show _ + 1 ≤ _; omega)
            have smn := same_new (o := HO.lst [V.non]) hnl
            have smc := same_new (o := HO.lst (vns (difs (thn e g) (thn g e) (thn e g).length) ++ [V.non])) hcl
            have hat : atI (vns (difs (thn e g) (thn g e) (thn e g).length) ++ [V.non]) 0 = some (vo (unl (thn e g) (thn g e))) := by
              have hh := difs_head (thn e g) (thn g e)
              cases ed : difs (thn e g) (thn g e) (thn e g).length with
              | nil =>
                rw [ed] at hh
                rw [← hh]
                rfl
              | cons i0 ir =>
                rw [ed] at hh
                rw [← hh]
                exact atI_nat (j := 0) rfl
            refine ⟨cl, _, 0, _, rfl, rfl, SqL.of upd_same, hat, by show 3 ≤ sizeLine; decide, fun q0 hq0 => ?_⟩
            have smq := same_new (o := HO.tup [yr, yq, vo (unl (thn e g) (thn g e))]) hq0
            have smE := ((sm13.trans smn).trans smc).trans smq
            exact q _ _ (some (r, q', unl (thn e g) (thn g e))) ⟨1 + s, 2 + t, e, g, by omega, hst, hi, hj, z, rfl, hnb2⟩ ⟨q0, yr, yq, rfl, upd_same, i3.sm smE, j3.sm smE⟩ smE
        · refine ⟨_, _, _, _, rfl, ((sm5.trans s69).trans s10).trans s11, hnb2.next fun e' g' r' q'' h1 h2 => ?_⟩
          rw [hi] at h1
          rw [hj] at h2
          cases h1
          cases h2
          simpa using z
      · rintro σ H5 ⟨x3, x4, x5, x6, rfl, sm5, hnb2⟩
        rw [hzl] at hnb2
        refine ⟨_, _, _, _, _, _, rfl, smA.trans sm5, ?_⟩
        have e1 : 1 + (1 + t) = 2 + t := by omega
        rw [e1] at hnb2
        exact hnb2.row
    · rintro σ H3 ⟨x1, x2, x3, x4, x5, x6, rfl, sm3, hnb⟩
      refine q _ _ none ?_ rfl sm3
      intro i' j' e g r q h1 h2 h3 h4 h5
      have hj := (List.getElem?_eq_some_iff.mp h5).1
      exact hnb i' j' e g r q h1 h2 (.inl (by omega)) h4 h5
/-! honesty -/
def sams (e g : Eff) (k : Nat) : List Nat := (List.range k).filter fun i => decide (ap g i = ap e i)
theorem sams_step (e g : Eff) (i : Nat) : sams e g (i + 1) = sams e g i ++ (if ap g i = ap e i then [i] else []) := by
  unfold sams
  rw [List.range_succ, List.filter_append]
  congr 1
  by_cases h : ap g i = ap e i
  · simp [h]
  · simp [h]
def honP (e g : Eff) : Prop := (sams (thn e g) (thn g e) (thn e g).length).length = 0 ∨ (sams (thn e g) (thn g e) (thn e g).length).length = (thn e g).length
instance (e g : Eff) : Decidable (honP e g) := by
  unfold honP
  infer_instance
theorem in_two (c L : Nat) : inV (.int (c : Int)) [V.int 0, .int (L : Int)] = decide (c = 0 ∨ c = L) := by
  show (((0 : Int) == (c : Int)) || (((L : Int) == (c : Int)) || false)) = _
  rw [Bool.eq_iff_iff]
  simp only [Bool.or_eq_true, beq_iff_eq, decide_eq_true_eq, Bool.or_false]
  omega
def HonL (es : List Eff) : Prop := ∀ e ∈ es, ∀ g ∈ es, honP e g
def spHon : Sp := fun vs H Q _ => ∃ n p xs es, vs = [.ref p] ∧ H p = some (.lst xs) ∧ Al (Ef H) xs es ∧ (∀ e ∈ es, Ok n e) ∧ n ≤ 1000 ∧ ∀ H' b, (b = true ↔ HonL es) → Same H H' → Q (.bl b) H'
abbrev sc__law_is_honestN : List Str := ["_law_effects", "_law_one", "_law_other", "_law_first", "_law_second", "_law_state", "_law_image"]
theorem sc__law_is_honest : FnScope sc__law_is_honestN ["_law_effects"] (defScope (topS 61)) := ⟨rfl, rfl, rfl, by decide +kernel, rfl, by decide +kernel, by decide +kernel⟩
theorem ok__law_is_honest (D : Dfn K mg "_law_is_honest" (topS 61)) (T : Txt K mg CM) (c__law_then : Fn P w K mg base 1 "_law_then" spThen) : Fn P w K mg base 2 "_law_is_honest" spHon := by
  refine fn_by D sc__law_is_honest (fun _ _ _ _ _ _ us hl => match us, hl with | [_], _ => rfl) (fun vs H Q E h => ?_) (fun f cdv A outer s H vs Q E hr h => ?_)
  · obtain ⟨n, p, xs, es, rfl, _⟩ := h
    rfl
  · obtain ⟨n, p, xs, es, rfl, hp, hal, hok, hn, q⟩ := h
    refine ⟨_, (pss_cons (ps_for PassesOwn.never rfl (pi_list (pv 0)) (pg_name (i := 1) sc__law_is_honest.nd rfl (Or.inl rfl))
 (pss_one (ps_for PassesOwn.never rfl (pi_list (pv 0)) (pg_name (i := 2) sc__law_is_honest.nd rfl (Or.inl rfl))
 (pss_cons (ps_asg (pe_tup (pa_cons (pe_f c__law_then hr (by first | decide | omega) rfl (pa_cons (pv 1) (pa_cons (pv 2) pa_nil))) (pa_cons (pe_f c__law_then hr (by first | decide | omega) rfl (pa_cons (pv 2) (pa_cons (pv 1) pa_nil))) pa_nil))) (pg_tup (n := 2) rfl (pgs_cons (pg_name (i := 3) sc__law_is_honest.nd rfl (Or.inl rfl)) (pgs_cons (pg_name (i := 4) sc__law_is_honest.nd rfl (Or.inr rfl)) pgs_nil))))
 (pss_one (ps_if (pt_cmpR op_notIn_seq (pe_callB call_len_seq rfl T.len PySem.boot_len (pa_cons (pe_lc (own := [("_law_state", 5), ("_law_image", 6)]) rfl sc__law_is_honest.nd (pi_enumT rfl T.enumerate (pa_cons (pv 3) pa_nil)) (blkOk_by (N := sc__law_is_honestN) (sc := defScope (topS 61)) (by decide +kernel)) (fun _ _ _ _ _ => (pg_tupC (K := K) (n := 2) rfl rfl (pgs_cons (pg_name (i := 5) sc__law_is_honest.nd rfl (Or.inl rfl)) (pgs_cons (pg_name (i := 6) sc__law_is_honest.nd rfl (Or.inl rfl)) pgs_nil)))) (fun _ _ _ _ _ => (pts_one (pt_cmpR op_eq (pe_ix (ix_tup : IxR _ (rIxT K)) (pv 4) (pv 5) (fun _ _ => rfl)) (pv 6) (nomark _)))) (fun _ _ _ _ _ => (pv 5))) pa_nil)) (pe_tup (pa_cons pe_int (pa_cons (pe_callB call_len_seq rfl T.len PySem.boot_len (pa_cons (pv 3) pa_nil)) pa_nil))) (by rfl))
 (pss_one (ps_ret pe_bl))
 pss_nil))))))
 (pss_one (ps_ret pe_bl))), ?_⟩
    refine ⟨.ref p, rfl, p, rfl, ⟨_, SqL.of hp⟩, for_it walk_list (fun i σ H' => ∃ x1 x2 x3 x4, σ = [some (.ref p), x1, x2, x3, x4, none, none] ∧ Same H H' ∧ ∀ e ∈ es.take i, ∀ g ∈ es, honP e g) ⟨_, _, _, _, rfl, Same.refl _, fun _ h => absurd h (by simp)⟩ (fun i σ H' _ ⟨_, _, _, _, _, s, _⟩ => SqL.of (s _ _ hp)) ?_ ?_⟩
    · rintro i y σ H1 H2 hi ⟨x1, x2, x3, x4, rfl, sm, hh⟩ ⟨rfl, hy⟩
      obtain ⟨e, he, hve⟩ := hal.at' hy
      have oke := hok e (List.mem_of_getElem? he)
      have le : e.length ≤ 1000 := by rw [oke.len]; exact hn
      refine ⟨.ref p, rfl, p, rfl, ⟨_, SqL.of (sm _ _ hp)⟩, for_it walk_list (fun j σ H' => ∃ x2 x3 x4, σ = [some (.ref p), some y, x2, x3, x4, none, none] ∧ Same H H' ∧ ∀ g ∈ es.take j, honP e g) ⟨_, _, _, rfl, sm, fun _ h => absurd h (by simp)⟩ (fun i σ H' _ ⟨_, _, _, _, s, _⟩ => SqL.of (s _ _ hp)) ?_ ?_⟩
      · rintro j z σ H3 H4 hj ⟨x2, x3, x4, rfl, sm3, hh2⟩ ⟨rfl, hz⟩
        obtain ⟨g, hg, hvg⟩ := hal.at' hz
        have okg := hok g (List.mem_of_getElem? hg)
        have lg : g.length ≤ 1000 := by rw [okg.len]; exact hn
        refine ⟨y, rfl, z, rfl, y, z, e, g, rfl, hve.sm sm3, hvg.sm sm3, fun x hx => by rw [okg.len]; exact oke.lt x hx, le, fun H7 f1 s7 h7 => ?_⟩
        refine ⟨z, rfl, y, rfl, z, y, g, e, rfl, (hvg.sm sm3).sm s7, (hve.sm sm3).sm s7, fun x hx => by rw [oke.len]; exact okg.lt x hx, lg, fun H8 f2 s8 h8 => ⟨by show 2 ≤ sizeLine; decide, fun tt htt => ?_⟩⟩
        have smt := same_new (o := HO.tup [f1, f2]) htt
        refine ⟨tt, _, rfl, SqT.of upd_same, rfl, _, _, rfl, _, _, rfl, rfl, ?_⟩
        generalize upd H8 tt (.tup [f1, f2]) = H9 at smt
        have sm9 := sm3.trans ((s7.trans s8).trans smt)
        obtain ⟨fa1, rfl, hf1⟩ := (h7.sm s8).sm smt
        obtain ⟨fa2, rfl, hf2⟩ := h8.sm smt
        have okeg := ok_thn oke okg
        have okge := ok_thn okg oke
        have eln : (vns (thn e g)).length = (thn e g).length := List.length_map _
        refine ⟨.ref fa1, rfl, fa1, _, rfl, SqT.of hf1, fun Dl hD => lc_it walk_enumT (fun i H' => Same H9 H' ∧ H' Dl = some (.lst (vns (sams (thn e g) (thn g e) i)))) ⟨same_new hD, upd_same⟩ (fun _ _ _ p => SqT.of (p.1 _ _ hf1)) ?_ ?_⟩
        · rintro i y H12 H13 hi2 ⟨sm12, eD⟩ ⟨t3, x1, x2, rfl, ht3, rfl, hx1, hy3⟩
          cases hx1
          obtain ⟨hie, rfl⟩ := vns_at hy3
          have smt3 := same_new (o := HO.tup [V.int (i : Nat), vn (ap (thn e g) i)]) ht3
          have nt : Dl ≠ t3 := ne_of_none eD ht3
          have eD2 := smt3 _ _ eD
          have hig : i < (thn g e).length := by rw [okge.len, ← okeg.len]; exact hie
          refine ⟨t3, _, rfl, SqT.of upd_same, rfl, _, _, rfl, _, _, rfl, rfl, rfl, ?_⟩
          refine ⟨.ref fa2, rfl, _, rfl, fa2, _, (i : Int), _, rfl, rfl, SqT.of (smt3 _ _ (sm12 _ _ hf2)), at_vn hig, _, rfl, rfl, _, rfl, ite2 (fun z3 => ?_) (fun z3 => ?_)⟩
          · have heq : ap (thn g e) i = ap (thn e g) i := Int.ofNat.inj (V.int.inj (of_decide_eq_true z3))
            refine ⟨_, rfl, _, eD2, ?_, same_at (sm12.trans smt3) hD, ?_⟩
            · rw [List.length_map]
              refine Nat.lt_of_le_of_lt (List.length_filter_le _ _) ?_
              rw [List.length_range]
              have := okeg.len
              exact szl (by omega)
            · rw [upd_same, sams_step, if_pos heq]
              exact congrArg (fun l => some (HO.lst l)) (vns_snoc _ i)
          · have hne : ¬ ap (thn g e) i = ap (thn e g) i := fun q => z3 (decide_eq_true (by rw [q]))
            refine ⟨sm12.trans smt3, ?_⟩
            rw [eD2, sams_step, if_neg hne, List.append_nil]
        · rintro H12 ⟨sm12, eD⟩
          rw [eln] at eD
          refine ⟨Dl, _, rfl, .inl (SqL.of eD), .ref fa1, rfl, fa1, _, rfl, .inr (SqT.of (sm12 _ _ hf1)), by show 2 ≤ sizeLine; decide, fun tp htp => ?_⟩
          have smp := same_new (o := HO.tup [V.int 0, .int ((vns (thn e g)).length : Int)]) htp
          have sm13 := (sm9.trans sm12).trans smp
          have hin : inV (.int ((vns (sams (thn e g) (thn g e) (thn e g).length)).length : Int)) [V.int 0, .int ((vns (thn e g)).length : Int)] = decide (honP e g) := by
            rw [eln, show (vns (sams (thn e g) (thn g e) (thn e g).length)).length = (sams (thn e g) (thn g e) (thn e g).length).length from List.length_map _, in_two]
            rfl
          refine ⟨tp, _, rfl, .inr (SqT.of upd_same), rfl, rfl, !decide (honP e g), ?_, ite2 (fun z4 => ?_) (fun z4 => ?_)⟩
          · rw [if_pos rfl, hin]
          · have hn : ¬ honP e g := by simpa using z4
            exact q _ false ⟨fun h => (by cases h), fun h => absurd (h e (List.mem_of_getElem? he) g (List.mem_of_getElem? hg)) hn⟩ sm13
          · have hh' : honP e g := by simpa using z4
            refine ⟨_, _, _, rfl, sm13, fun g' hg' => ?_⟩
            rw [List.take_add_one, hg] at hg'
            rcases List.mem_append.mp hg' with h | h
            · exact hh2 g' h
            · rw [List.mem_singleton.mp h]; exact hh'
      · rintro σ H3 ⟨x2, x3, x4, rfl, sm3, hh2⟩
        rw [hal.1, List.take_length] at hh2
        refine ⟨_, _, _, _, rfl, sm3, fun e' he' => ?_⟩
        rw [List.take_add_one, he] at he'
        rcases List.mem_append.mp he' with h | h
        · exact hh e' h
        · rw [List.mem_singleton.mp h]; exact hh2
    · rintro σ H1 ⟨x1, x2, x3, x4, rfl, sm, hh⟩
      rw [hal.1, List.take_length] at hh
      exact q _ true ⟨fun _ => hh, fun _ => rfl⟩ sm
end
end EO
end
section
set_option Elab.async false
set_option linter.all false
set_option maxRecDepth 100000
set_option maxHeartbeats 1000000
/-! unbreakable -/
namespace EO
open PySem PySem.Spec PyProof.Rows L2
theorem dedup_mem {acc : List Int} {x y : Int} (h : y ∈ acc ∨ y = x) : y ∈ step_dedup acc x := by
  unfold step_dedup
  split
  · rename_i hc
    rcases h with h | h
    · exact h
    · obtain ⟨z, hz, e⟩ := List.any_eq_true.mp hc
      rw [h, ← (beq_iff_eq.mp e)]
      exact hz
  · rcases h with h | h
    · exact List.mem_append_left _ h
    · rw [h]; exact List.mem_append_right _ (by simp)
theorem met_mem (val : Nat → Int) : ∀ i j, j < i → val j ∈ firstMet val i
  | 0, j, h => absurd h (Nat.not_lt_zero j)
  | i + 1, j, h => by
    rw [firstMet_succ]
    by_cases hj : j < i
    · exact dedup_mem (.inl (met_mem val i j hj))
    · exact dedup_mem (.inr (by rw [show j = i by omega]))
theorem met_one {ns : List Int} (h : (firstMet (fun i => ns.getD i 0) ns.length).length ≤ 1) : ∀ a ∈ ns, ∀ b ∈ ns, a = b := by
  intro a ha b hb
  have key : ∀ x ∈ ns, x ∈ firstMet (fun i => ns.getD i 0) ns.length := fun x hx => by
    obtain ⟨i, hi, e⟩ := List.mem_iff_getElem.mp hx
    have := met_mem (fun i => ns.getD i 0) ns.length i hi
    simp only [List.getD_eq_getElem?_getD, List.getElem?_eq_getElem hi, Option.getD_some, e] at this
    exact this
  have h1 := key a ha
  have h2 := key b hb
  generalize firstMet (fun i => ns.getD i 0) ns.length = l at *
  match l, h, h1, h2 with
  | [], _, h1, _ => cases h1
  | [x], _, h1, h2 => rw [List.mem_singleton.mp h1, List.mem_singleton.mp h2]
  | _ :: _ :: _, h, _, _ => simp at h
/-- len(set(ints)) -/
def tLenSetA (K : PySem.W.Frag) (ta : TE) : TE := fun σ H Q => ta σ H fun x H1 => ∃ (l : Addr) (ns : List Int), x = .ref l ∧ SqL K H1 l (vis ns) ∧ ns.length ≤ 1000 ∧ ∀ m : Nat, (m ≤ 1 → ∀ a ∈ ns, ∀ b ∈ ns, a = b) → Q (.int (m : Nat)) H1
theorem ints_of : ∀ {ns : List Int} {us : List Value}, Vals (vis ns) us → PyProof.Rows.IntsAre us ns
  | [], _, .nil => .nil
  | n :: ns, _, .cons r t => by
    obtain ⟨k, rfl⟩ := r
    exact .cons n k (ints_of t)
theorem pe_lenSetA {X : Cx} {a : Expr} {ta : TE} {p p2 q pos : Pos} (hg : Gl X "len") (hm : X.mg "len" = none) (hg2 : Gl X "set") (hm2 : X.mg "set" = none) (ha : PE X a ta) (hc : X.calm = true := by rfl)
    (na : starEach [a] X.env = (false, eval a X.env) :: starEach [] X.env := by rfl) : PE X (.Call (.Name "len" p) [.Call (.Name "set" p2) [a] [] q] [] pos) (tLenSetA X.K ta) := by
  refine ⟨fun pins s σ H Q I h => Call_ (ld_blt I hg hm PySem.boot_len (PyProof.Rows.callWith_builtin1 (PyProof.Rows.args_cons (Call_ (ld_blt I hg2 hm2 PyProof.Rows.boot_set ?_)) rfl) rfl rfl))⟩
  refine PyProof.Rows.callWith_type1 (PyProof.Rows.args_cons (L2.thn (ha.run pins s σ H _ I h) fun v s1 ⟨x, H1, I1, r1, q1⟩ => PyProof.Rows.args_nil ?_) na) na rfl
  obtain ⟨l, ns, rfl, hq, h1, q1⟩ := q1
  cases r1
  obtain ⟨its, r, pl, hz⟩ := I1.list hq
  have hl : its.toArray.size = ns.length := by rw [List.size_toArray, ← r.length, List.length_map]
  refine call_set_list (I1.ok.hd hc) pl.isList (ns := ns) (by simpa using ints_of r) (by unfold scanBound; omega) fun h' tk hS hk => ?_
  rw [hl] at hS
  have hle := firstMet_length_le (fun i => ns.getD i 0) ns.length
  refine PyProof.Rows.args_nil ?_
  obtain ⟨o, es, ep, t, ho, hex, hd, _, _, _, hf, hn⟩ := hS
  have I2 : Inv X pins σ H1 { s1 with heap := h', toks := tk } := I1.kept fun b o e => hk b o (Heap.lt_size e) e
  exact call_len_set ho hex hd hf (by rw [hn]; omega) ⟨.int ((firstMet (fun i => ns.getD i 0) ns.length).length : Nat), H1, I2.tok _, ⟨_, by rw [hn]⟩, q1 _ fun hm => met_one hm⟩
/-! congruences -/
structure Cong (n : Nat) (ds : List (Str × Eff)) (T : Nat → Nat → Prop) : Prop where
  r : ∀ a, T a a
  s : ∀ a b, T a b → T b a
  t : ∀ a b c, T a b → T b c → T a c
  c : ∀ d ∈ ds, ∀ a b, a < n → b < n → T a b → T (ap d.2 a) (ap d.2 b)
/-- every congruence that joins x and y joins all -/
def Joins (n : Nat) (ds : List (Str × Eff)) (x y : Nat) : Prop := ∀ T, Cong n ds T → T x y → ∀ a b, a < n → b < n → T a b
theorem al_append {α : Type} {R : V → α → Prop} : ∀ {vs ws : List V} {xs ys : List α}, Al R vs xs → Al R ws ys → Al R (vs ++ ws) (xs ++ ys)
  | [], ws, [], ys, _, h => h
  | [], _, _ :: _, _, h, _ => absurd h.1 (by simp)
  | _ :: _, _, [], _, h, _ => absurd h.1 (by simp)
  | v :: vs, ws, x :: xs, ys, h, k => by
    obtain ⟨v', us, e, r, q⟩ := h.uncons
    cases e
    exact Al.cons r (al_append q k)
/-! one merge -/
def mrg (old new : Nat) (G : List Nat) : List Nat := G.map fun g => if g = old then new else g
theorem ap_mrg {old new : Nat} {G : List Nat} {a : Nat} (h : a < G.length) : ap (mrg old new G) a = if ap G a = old then new else ap G a := by
  unfold mrg ap
  rw [List.getD_eq_getElem?_getD, List.getD_eq_getElem?_getD, List.getElem?_map, List.getElem?_eq_getElem h]
  rfl
theorem sum_mrg_le {old new : Nat} (h : new < old) : ∀ G : List Nat, (mrg old new G).sum ≤ G.sum
  | [] => Nat.le_refl _
  | g :: r => by
    have ih := sum_mrg_le h r
    show ((if g = old then new else g) :: mrg old new r).sum ≤ (g :: r).sum
    rw [List.sum_cons, List.sum_cons]
    split <;> omega
theorem sum_mrg {old new : Nat} (h : new < old) : ∀ G : List Nat, old ∈ G → (mrg old new G).sum < G.sum
  | [], hm => by cases hm
  | g :: r, hm => by
    have ih := sum_mrg_le h r
    show ((if g = old then new else g) :: mrg old new r).sum < (g :: r).sum
    rw [List.sum_cons, List.sum_cons]
    rcases List.mem_cons.mp hm with e | hm
    · rw [if_pos e.symm]; omega
    · have := sum_mrg h r hm
      split <;> omega
structure JInv (n : Nat) (ds : List (Str × Eff)) (x y : Nat) (G : List Nat) (L : List (Nat × Nat)) : Prop where
  len : G.length = n
  lt : ∀ g ∈ G, g < n
  pl : ∀ p ∈ L, p.1 < n ∧ p.2 < n
  big : 10 * G.sum + L.length ≤ 1000
  cg : ∀ T, Cong n ds T → T x y → (∀ a b, a < n → b < n → ap G a = ap G b → T a b) ∧ ∀ p ∈ L, T p.1 p.2
theorem JInv.drop {n : Nat} {ds : List (Str × Eff)} {x y : Nat} {G : List Nat} {L : List (Nat × Nat)} {p : Nat × Nat} (J : JInv n ds x y G (L ++ [p])) : JInv n ds x y G L :=
  ⟨J.len, J.lt, fun q hq => J.pl q (List.mem_append_left _ hq), by have := J.big; rw [List.length_append] at this; omega, fun T c h => ⟨(J.cg T c h).1, fun q hq => (J.cg T c h).2 q (List.mem_append_left _ hq)⟩⟩
theorem JInv.merge {n : Nat} {ds : List (Str × Eff)} {x y : Nat} {G : List Nat} {L : List (Nat × Nat)} {p : Nat × Nat} (J : JInv n ds x y G (L ++ [p])) (hd : ∀ d ∈ ds, Ok n d.2) (hl : ds.length ≤ 8) {old new : Nat} (hno : new < old)
    (hon : (old = ap G p.1 ∧ new = ap G p.2) ∨ (old = ap G p.2 ∧ new = ap G p.1)) : JInv n ds x y (mrg old new G) (L ++ ds.map fun d => (ap d.2 p.1, ap d.2 p.2)) ∧ 10 * (mrg old new G).sum + (L ++ ds.map fun d => (ap d.2 p.1, ap d.2 p.2)).length < 10 * G.sum + (L ++ [p]).length := by
  have hp := J.pl p (List.mem_append_right _ (by simp))
  have mem : ∀ {a}, a < n → ap G a ∈ G := fun {a} ha => List.mem_of_getElem? (ap_get (by rw [J.len]; exact ha))
  have hold : old ∈ G := by rcases hon with h | h <;> rw [h.1] <;> exact mem (by first | exact hp.1 | exact hp.2)
  have hnew : new ∈ G := by rcases hon with h | h <;> rw [h.2] <;> exact mem (by first | exact hp.1 | exact hp.2)
  have hs := sum_mrg hno G hold
  have hlen : (L ++ ds.map fun d => (ap d.2 p.1, ap d.2 p.2)).length = L.length + ds.length := by rw [List.length_append, List.length_map]
  have hlen2 : (L ++ [p]).length = L.length + 1 := List.length_append ..
  have small : 10 * (mrg old new G).sum + (L ++ ds.map fun d => (ap d.2 p.1, ap d.2 p.2)).length < 10 * G.sum + (L ++ [p]).length := by rw [hlen, hlen2]; omega
  refine ⟨⟨by unfold mrg; rw [List.length_map]; exact J.len, fun g hg => ?_, fun q hq => ?_, by have := J.big; omega, fun T c h => ?_⟩, small⟩
  · unfold mrg at hg
    obtain ⟨g', hg', rfl⟩ := List.mem_map.mp hg
    split
    · exact J.lt new hnew
    · exact J.lt g' hg'
  · rcases List.mem_append.mp hq with hq | hq
    · exact J.pl q (List.mem_append_left _ hq)
    · obtain ⟨d, hd', rfl⟩ := List.mem_map.mp hq
      exact ⟨(hd d hd').ap_lt hp.1, (hd d hd').ap_lt hp.2⟩
  · obtain ⟨c1, c2⟩ := J.cg T c h
    have hT := c2 p (List.mem_append_right _ (by simp))
    refine ⟨fun a b ha hb hab => ?_, fun q hq => ?_⟩
    · rw [ap_mrg (by rw [J.len]; exact ha), ap_mrg (by rw [J.len]; exact hb)] at hab
      have one : ∀ a b, a < n → b < n → ap G a = old → ap G b = new → T a b := fun a b ha hb h1 h2 => by
        rcases hon with ⟨e1, e2⟩ | ⟨e1, e2⟩
        · exact c.t _ _ _ (c1 a p.1 ha hp.1 (by rw [h1, e1])) (c.t _ _ _ hT (c1 p.2 b hp.2 hb (by rw [h2, e2])))
        · exact c.t _ _ _ (c1 a p.2 ha hp.2 (by rw [h1, e1])) (c.t _ _ _ (c.s _ _ hT) (c1 p.1 b hp.1 hb (by rw [h2, e2])))
      by_cases h1 : ap G a = old
      · by_cases h2 : ap G b = old
        · exact c1 a b ha hb (by rw [h1, h2])
        · rw [if_pos h1, if_neg h2] at hab
          exact one a b ha hb h1 hab.symm
      · by_cases h2 : ap G b = old
        · rw [if_neg h1, if_pos h2] at hab
          exact c.s _ _ (one b a hb ha h2 hab)
        · rw [if_neg h1, if_neg h2] at hab
          exact c1 a b ha hb hab
    · rcases List.mem_append.mp hq with hq | hq
      · exact c2 q (List.mem_append_left _ hq)
      · obtain ⟨d, hd', rfl⟩ := List.mem_map.mp hq
        exact c.c d hd' _ _ hp.1 hp.2 hT
/-- what is left to do -/
def muJ (σ : L2.St) (H : Hp) : Nat := match σ[3]?, σ[4]? with
  | some (some (V.ref g)), some (some (V.ref l)) => (match H g with
      | some (.lst xs) => 10 * (xs.map natV).sum
      | _ => 0) + (match H l with
      | some (.lst xs) => xs.length
      | _ => 0)
  | _, _ => 0
theorem sum_natV (G : List Nat) : ((vns G).map natV).sum = G.sum := by
  rw [List.map_map]
  have e : (natV ∘ vn) = id := by funext x; show ((x : Int)).toNat = x; omega
  rw [e, List.map_id]
theorem sum_range6 : ∀ n, n ≤ 6 → (List.range n).sum ≤ 15 := by decide
theorem max_vn (a b : Nat) : V.int (if (b : Int) > (a : Int) then (b : Int) else (a : Int)) = vn (if b > a then b else a) := by
  by_cases h : b > a
  · rw [if_pos h, if_pos (show (b : Int) > (a : Int) by omega)]; rfl
  · rw [if_neg h, if_neg (show ¬ (b : Int) > (a : Int) by omega)]; rfl
theorem min_vn (a b : Nat) : V.int (if (b : Int) < (a : Int) then (b : Int) else (a : Int)) = vn (if b < a then b else a) := by
  by_cases h : b < a
  · rw [if_pos h, if_pos (show (b : Int) < (a : Int) by omega)]; rfl
  · rw [if_neg h, if_neg (show ¬ (b : Int) < (a : Int) by omega)]; rfl
section
variable {P : Program} {w : World} {K : PySem.W.Frag} {mg : Str → Option Value} {base : Heap} {CM CN CS : Addr}
def spJoin : Sp := fun vs H Q _ => ∃ n ds l x y, vs = [.ref l, vn x, vn y] ∧ LD H l ds ∧ DG n ds ∧ 1 ≤ ds.length ∧ x < n ∧ y < n ∧ ∀ H' m, (m ≤ 1 → Joins n ds x y) → Same H H' → Q (vn m) H'
abbrev sc__law_joinedN : List Str := ["_law_deeds_here", "_law_one", "_law_other", "_law_group", "_law_left", "_law_x", "_law_y", "_law_old", "_law_new", "_law_number", "_law_name", "_law_images"]
theorem sc__law_joined : FnScope sc__law_joinedN ["_law_deeds_here", "_law_one", "_law_other"] (defScope (topS 56)) := ⟨rfl, rfl, rfl, by decide +kernel, rfl, by decide +kernel, by decide +kernel⟩
theorem ok__law_joined (D : Dfn K mg "_law_joined" (topS 56)) (T : Txt K mg CM) : Fn P w K mg base 1 "_law_joined" spJoin := by
  refine fn_by D sc__law_joined (fun _ _ _ _ _ _ us hl => match us, hl with | [_, _, _], _ => rfl) (fun vs H Q E h => ?_) (fun f cdv A outer s H vs Q E hr h => ?_)
  · obtain ⟨n, ds, l, x, y, rfl, _⟩ := h
    rfl
  · obtain ⟨n, ds, l, x, y, rfl, ⟨xs0, hl, hal0⟩, hdg, hd1, hx, hy, q⟩ := h
    refine ⟨_, (pss_cons (ps_par (i := 3) (j := 4) rfl sc__law_joined.nd rfl rfl (by decide) rfl rfl (pa_cons (pe_listRg rfl rfl T.list (prg_1 rfl T.range (pe_callB call_len_seq rfl T.len PySem.boot_len (pa_cons (pe_ix ix_tup (pe_ix ix_list (pv 0) pe_int (fun _ _ => rfl)) pe_int (fun _ _ => rfl)) pa_nil)))) (pa_cons (pe_lst (pa_cons (pe_tup (pa_cons (pv 1) (pa_cons (pv 2) pa_nil))) pa_nil)) pa_nil)) (by rfl))
 (pss_cons (ps_while PassesOwn.never (pt_cmpR (op_neD hr.units) (pv 4) (pe_lst pa_nil) (nomark _))
 (pss_cons (ps_asg (pe_bm0 PySem.F.plainAttrs_list PySem.F.slot_list_pop PySem.F.type_list_pop mt_pop (pv 4)) (pg_tup (n := 2) rfl (pgs_cons (pg_name (i := 5) sc__law_joined.nd rfl (Or.inr rfl)) (pgs_cons (pg_name (i := 6) sc__law_joined.nd rfl (Or.inr rfl)) pgs_nil))))
 (pss_one (ps_if (pt_cmpR op_ne (pe_ix ix_list (pv 3) (pv 5) (fun _ _ => rfl)) (pe_ix ix_list (pv 3) (pv 6) (fun _ _ => rfl)) (nomark _))
 (pss_cons (ps_asg (pe_tup (pa_cons (pe_callB (call_max2 rfl) rfl T.max PyProof.Rows.Boot.«max» (pa_cons (pe_ix ix_list (pv 3) (pv 5) (fun _ _ => rfl)) (pa_cons (pe_ix ix_list (pv 3) (pv 6) (fun _ _ => rfl)) pa_nil))) (pa_cons (pe_callB (call_min2 rfl) rfl T.min PyProof.Rows.Boot.«min» (pa_cons (pe_ix ix_list (pv 3) (pv 5) (fun _ _ => rfl)) (pa_cons (pe_ix ix_list (pv 3) (pv 6) (fun _ _ => rfl)) pa_nil))) pa_nil))) (pg_tup (n := 2) rfl (pgs_cons (pg_name (i := 7) sc__law_joined.nd rfl (Or.inr rfl)) (pgs_cons (pg_name (i := 8) sc__law_joined.nd rfl (Or.inr rfl)) pgs_nil))))
 (pss_cons (ps_setLc (i := 3) (own := [("_law_number", 9)]) rfl sc__law_joined.nd rfl rfl (sw_true rfl rfl rfl (by decide +kernel)) (pi_list (pv 3)) (blkOk_by (N := sc__law_joinedN) (sc := defScope (topS 56)) (by decide +kernel)) (fun _ _ _ _ _ => (pg_name (i := 9) sc__law_joined.nd rfl (Or.inl rfl))) (fun _ _ _ _ _ => pts_nil) (fun _ _ _ _ _ => (pe_ifExp (pt_cmpR op_eq (pv 9) (pv 7) (nomark _)) (pv 8) (pv 9))))
 (pss_one (ps_set (i := 4) sc__law_joined.nd rfl (Or.inl rfl) (pe_op op_cat (pv 4) (pe_lc (own := [("_law_name", 10), ("_law_images", 11)]) rfl sc__law_joined.nd (pi_list (pv 0)) (blkOk_by (N := sc__law_joinedN) (sc := defScope (topS 56)) (by decide +kernel)) (fun _ _ _ _ _ => (pg_tupC (K := K) (n := 2) rfl rfl (pgs_cons (pg_name (i := 10) sc__law_joined.nd rfl (Or.inl rfl)) (pgs_cons (pg_name (i := 11) sc__law_joined.nd rfl (Or.inl rfl)) pgs_nil)))) (fun _ _ _ _ _ => pts_nil) (fun _ _ _ _ _ => (pe_tup (pa_cons (pe_ix (ix_tup : IxR _ (rIxT K)) (pv 11) (pv 5) (fun _ _ => rfl)) (pa_cons (pe_ix (ix_tup : IxR _ (rIxT K)) (pv 11) (pv 6) (fun _ _ => rfl)) pa_nil))))))))))
 pss_nil))))
 (pss_one (ps_ret (pe_lenSetA rfl T.len rfl T.set (pv 3)))))), ?_⟩
    have hn6 := hdg.hi
    have hfew := hdg.few
    have hxl := hal0.1
    obtain ⟨d0, dr, rfl⟩ : ∃ d0 dr, ds = d0 :: dr := by
      cases ds with
      | nil => exact absurd hd1 (by simp)
      | cons d0 dr => exact ⟨d0, dr, rfl⟩
    obtain ⟨x0, xr, rfl, ⟨t0, y0, rfl, g1, ⟨yy, rfl, g2⟩⟩, _⟩ := hal0.uncons
    have len0 : (vns d0.2).length = n := by rw [List.length_map, (hdg.ok d0 (List.mem_cons_self ..)).len]
    have rgok : RgOk 0 (n : Int) := RgOk.of_le (by decide) (by omega) (by decide) (by omega)
    refine ⟨.ref l, rfl, l, _, 0, .ref t0, rfl, rfl, SqL.of hl, atI_nat (j := 0) rfl, t0, _, 1, .ref yy, rfl, rfl, SqT.of g1, rfl, yy, _, rfl, .inr (SqT.of g2), ?_⟩
    rw [len0]
    generalize hds : d0 :: dr = ds at *
    refine ⟨n, rfl, rgok, fun gp hgp => ?_⟩
    rw [rg_id]
    refine ⟨vn x, rfl, vn y, rfl, by show 2 ≤ sizeLine; decide, fun pt hpt => ⟨by show 1 ≤ sizeLine; decide, fun lp hlp => ⟨_, _, rfl, ?_⟩⟩⟩
    have smg := same_new (o := HO.lst (vns (idE n))) hgp
    have smpt := same_new (o := HO.tup [vn x, vn y]) hpt
    have sml := same_new (o := HO.lst [V.ref pt]) hlp
    have hlp0 : H lp = none := none_back (smg.trans smpt) hlp
    have ngl : gp ≠ lp := ne_of_none (smpt gp _ upd_same) hlp
    have sum0 : (idE n).sum ≤ 15 := sum_range6 n hn6
    refine while_by (fun σ H' => ∃ gp lp G L xs x5 x6 x7 x8, σ = [some (.ref l), some (vn x), some (vn y), some (.ref gp), some (.ref lp), x5, x6, x7, x8, none, none, none] ∧ Same H H' ∧ gp ≠ lp ∧ H lp = none ∧ H' gp = some (.lst (vns G)) ∧ H' lp = some (.lst xs) ∧ Al (fun v (p : Nat × Nat) => Ef H' v [p.1, p.2]) xs L ∧ JInv n ds x y G L)
      muJ ⟨gp, lp, idE n, [(x, y)], [.ref pt], _, _, _, _, rfl, (smg.trans smpt).trans sml, ngl, hlp0, sml _ _ (smpt _ _ upd_same), upd_same, Al.cons ⟨pt, rfl, sml _ _ upd_same⟩ Al.nil, ?_⟩ ?_ ?_
    · refine ⟨(ok_id n).len, (ok_id n).lt, fun p hp => ?_, by show 10 * (idE n).sum + 1 ≤ 1000; omega, fun T c h => ⟨fun a b ha hb e => ?_, fun p hp => ?_⟩⟩
      · rw [List.mem_singleton.mp hp]; exact ⟨hx, hy⟩
      · rw [ap_id ha, ap_id hb] at e
        rw [e]; exact c.r b
      · rw [List.mem_singleton.mp hp]; exact h
    · rintro σ H1 ⟨gp, lp, G, L, xs, x5, x6, x7, x8, rfl, sm, ngl, hlp0, eg, el, hal, J⟩
      refine ne_nil rfl el (fun v hv => ?_) fun H2 s2 => ?_
      · obtain ⟨i, hi, e⟩ := List.mem_iff_getElem.mp hv
        obtain ⟨p, _, hp⟩ := hal.at' (List.getElem?_eq_getElem hi)
        rw [← e]
        exact .inr ⟨_, hp⟩
      have sm2 := sm.trans s2
      have eg2 := s2 _ _ eg
      have el2 := s2 _ _ el
      have hal2 := hal.mono fun _ _ h => Ef.kt h (kt s2)
      have mu1 : muJ [some (.ref l), some (vn x), some (vn y), some (.ref gp), some (.ref lp), x5, x6, x7, x8, none, none, none] H1 = 10 * G.sum + L.length := by
        show (match H1 gp with
          | some (.lst xs) => 10 * (xs.map natV).sum
          | _ => 0) + (match H1 lp with
          | some (.lst xs) => xs.length
          | _ => 0) = _
        rw [eg, el, ← hal.1]
        show 10 * ((vns G).map natV).sum + xs.length = _
        rw [sum_natV]
      rcases List.eq_nil_or_concat xs with rfl | ⟨ini, v, rfl⟩
      · refine ⟨.ref gp, rfl, gp, G.map fun g : Nat => (g : Int), rfl, SqL.of (eg2.trans ?_), ?_, fun m hm => q _ m (fun h1 T c hT a b ha hb => ?_) sm2⟩
        · unfold vis vns
          rw [List.map_map]
          rfl
        · rw [List.length_map, J.len]; omega
        · refine (J.cg T c hT).1 a b ha hb ?_
          have mem : ∀ {a}, a < n → ((ap G a : Nat) : Int) ∈ G.map fun g : Nat => (g : Int) := fun {a} ha => List.mem_map.mpr ⟨_, List.mem_of_getElem? (ap_get (by rw [J.len]; exact ha)), rfl⟩
          exact Int.ofNat.inj (hm h1 _ (mem ha) _ (mem hb))
      · rw [List.concat_eq_append] at *
        have hLl : L.length = ini.length + 1 := by rw [← hal.1, List.length_append]; rfl
        rcases List.eq_nil_or_concat L with rfl | ⟨Li, p, rfl⟩
        · exact absurd hLl (by simp)
        rw [List.concat_eq_append] at *
        have hLi : ini.length = Li.length := by rw [List.length_append] at hLl; simpa using hLl.symm
        have hpv : Ef H2 v [p.1, p.2] := hal2.2 ini.length v p (by simp) (by rw [hLi]; simp)
        have hini : Al (fun v (p : Nat × Nat) => Ef H2 v [p.1, p.2]) ini Li := by
          have := hal2.take ini.length
          rw [List.take_left] at this
          rw [hLi, List.take_left] at this
          exact this
        obtain ⟨pa, rfl, hpa⟩ := hpv
        have hp := J.pl p (List.mem_append_right _ (by simp))
        have hnem : (!(ini ++ [V.ref pa]).isEmpty) = true := by cases ini <;> rfl
        rw [hnem]
        refine ⟨.ref lp, rfl, .inl ⟨rfl, _, SqL.of el2⟩, lp, _, .ref pa, rfl, rfl, el2, by simp, ?_⟩
        rw [List.dropLast_concat]
        have k3 := kt_lst (o := HO.lst ini) el2
        have sm3 : Same H (upd H2 lp (.lst ini)) := same_at sm2 hlp0
        have eg3 : upd H2 lp (.lst ini) gp = some (.lst (vns G)) := by rw [upd_ne ngl]; exact eg2
        have el3 : upd H2 lp (.lst ini) lp = some (.lst ini) := upd_same
        have hini3 := hini.mono fun _ _ h => Ef.kt h k3
        have hpa3 := k3 _ _ hpa
        generalize upd H2 lp (.lst ini) = H3 at *
        refine ⟨pa, _, rfl, SqT.of hpa3, rfl, _, _, rfl, _, _, rfl, rfl, ?_⟩
        have ax : atI (vns G) ((p.1 : Nat) : Int) = some (vn (ap G p.1)) := at_vn (by rw [J.len]; exact hp.1)
        have ay : atI (vns G) ((p.2 : Nat) : Int) = some (vn (ap G p.2)) := at_vn (by rw [J.len]; exact hp.2)
        refine ⟨.ref gp, rfl, vn p.1, rfl, gp, _, _, _, rfl, rfl, SqL.of eg3, ax, .ref gp, rfl, vn p.2, rfl, gp, _, _, _, rfl, rfl, SqL.of eg3, ay, rfl, _, rfl, ite2 (fun z => ?_) (fun z => ?_)⟩
        · have hne : ap G p.1 ≠ ap G p.2 := fun e => by rw [e] at z; simp at z
          refine ⟨.ref gp, rfl, vn p.1, rfl, gp, _, _, _, rfl, rfl, SqL.of eg3, ax, .ref gp, rfl, vn p.2, rfl, gp, _, _, _, rfl, rfl, SqL.of eg3, ay, (ap G p.1 : Int), (ap G p.2 : Int), rfl, .ref gp, rfl, vn p.1, rfl, gp, _, _, _, rfl, rfl, SqL.of eg3, ax, .ref gp, rfl, vn p.2, rfl, gp, _, _, _, rfl, rfl, SqL.of eg3, ay, (ap G p.1 : Int), (ap G p.2 : Int), rfl, by show 2 ≤ sizeLine; decide, fun tt htt => ?_⟩
          rw [max_vn, min_vn]
          obtain ⟨old, hold⟩ : ∃ o, o = if ap G p.2 > ap G p.1 then ap G p.2 else ap G p.1 := ⟨_, rfl⟩
          obtain ⟨new, hnew⟩ : ∃ o, o = if ap G p.2 < ap G p.1 then ap G p.2 else ap G p.1 := ⟨_, rfl⟩
          rw [← hold, ← hnew]
          have hno : new < old := by rw [hold, hnew]; split <;> split <;> omega
          have hon : (old = ap G p.1 ∧ new = ap G p.2) ∨ (old = ap G p.2 ∧ new = ap G p.1) := by rw [hold, hnew]; split <;> split <;> omega
          obtain ⟨J2, hmu⟩ := J.merge hdg.ok hfew hno hon
          have smt := same_new (o := HO.tup [vn old, vn new]) htt
          refine ⟨tt, _, rfl, SqT.of upd_same, rfl, _, _, rfl, _, _, rfl, rfl, ?_⟩
          generalize upd H3 tt (.tup [vn old, vn new]) = H4 at smt
          have sm4 := sm3.trans smt
          have eg4 := smt _ _ eg3
          have el4 := smt _ _ el3
          have hini4 := hini3.mono fun _ _ h => Ef.kt h (kt smt)
          have hGl : (vns G).length = n := by rw [List.length_map, J.len]
          refine ⟨.ref gp, rfl, gp, rfl, ⟨_, SqL.of eg4⟩, fun Dl hD => lc_it walk_list (fun i H' => Same H4 H' ∧ H' Dl = some (.lst (vns ((mrg old new G).take i)))) ⟨same_new hD, upd_same⟩ (fun _ _ _ p => SqL.of (p.1 _ _ eg4)) ?_ ?_⟩
          · rintro i y H5 H6 hi ⟨sm5, eD⟩ ⟨rfl, hy⟩
            obtain ⟨hie, rfl⟩ := vns_at hy
            have hstp : (mrg old new G).take (i + 1) = (mrg old new G).take i ++ [if ap G i = old then new else ap G i] := by
              have h1 : i < (mrg old new G).length := by unfold mrg; rw [List.length_map]; exact hie
              rw [List.take_add_one, ap_get h1, ap_mrg hie]
              rfl
            have hlt : (vns ((mrg old new G).take i)).length < sizeLine := by
              rw [List.length_map, List.length_take]
              exact szl (by have := J.len; omega)
            refine ⟨rfl, _, rfl, _, rfl, rfl, _, rfl, ite2 (fun e => ?_) (fun e => ?_)⟩
            · have he : ap G i = old := Int.ofNat.inj (V.int.inj (of_decide_eq_true e))
              refine ⟨vn new, rfl, _, eD, hlt, same_at sm5 hD, ?_⟩
              rw [upd_same, hstp, if_pos he]
              exact congrArg (fun l => some (HO.lst l)) (vns_snoc _ new)
            · have he : ¬ ap G i = old := fun h => e (decide_eq_true (by rw [h]))
              refine ⟨_, rfl, _, eD, hlt, same_at sm5 hD, ?_⟩
              rw [upd_same, hstp, if_neg he]
              exact congrArg (fun l => some (HO.lst l)) (vns_snoc _ _)
          · rintro H5 ⟨sm5, eD⟩
            have eD' : H5 Dl = some (.lst (vns (mrg old new G))) := by
              rw [eD, List.take_of_length_le]
              unfold mrg
              rw [List.length_map, hGl, J.len]
              exact Nat.le_refl _
            have smB := sm4.trans sm5
            have hini5 := hini4.mono fun _ _ h => Ef.kt h (kt sm5)
            have el5 := sm5 _ _ el4
            refine ⟨.ref lp, rfl, .ref l, rfl, l, rfl, ⟨_, SqL.of (smB _ _ hl)⟩, fun D2 hD2 => lc_it walk_list (fun j H' => Same H5 H' ∧ ∃ zs, H' D2 = some (.lst zs) ∧ Al (fun v (q : Nat × Nat) => Ef H' v [q.1, q.2]) zs ((ds.map fun d => (ap d.2 p.1, ap d.2 p.2)).take j)) ⟨same_new hD2, [], upd_same, Al.nil⟩ (fun _ _ _ p => SqL.of (p.1 _ _ (smB _ _ hl))) ?_ ?_⟩
            · rintro j w2 H6 H7 hj ⟨sm6, zs, eD2, hzs⟩ ⟨rfl, hw⟩
              obtain ⟨d, hd, t, yv, rfl, f1, ⟨yi, rfl, f2⟩⟩ := hal0.at' hw
              have okd := hdg.ok d (List.mem_of_getElem? hd)
              have smC := smB.trans sm6
              have bx : atI (vns d.2) ((p.1 : Nat) : Int) = some (vn (ap d.2 p.1)) := at_vn (by rw [okd.len]; exact hp.1)
              have by' : atI (vns d.2) ((p.2 : Nat) : Int) = some (vn (ap d.2 p.2)) := at_vn (by rw [okd.len]; exact hp.2)
              refine ⟨t, _, rfl, SqT.of (smC _ _ f1), rfl, _, _, rfl, _, _, rfl, rfl, rfl, ?_⟩
              refine ⟨.ref yi, rfl, vn p.1, rfl, yi, _, _, _, rfl, rfl, SqT.of (smC _ _ f2), bx, .ref yi, rfl, vn p.2, rfl, yi, _, _, _, rfl, rfl, SqT.of (smC _ _ f2), by', by show 2 ≤ sizeLine; decide, fun tn htn => ?_⟩
              have smn := same_new (o := HO.tup [vn (ap d.2 p.1), vn (ap d.2 p.2)]) htn
              have e7 := smn _ _ eD2
              have k7 := kt_lst (o := HO.lst (zs ++ [.ref tn])) e7
              refine ⟨zs, e7, ?_, same_at (sm6.trans smn) hD2, zs ++ [.ref tn], upd_same, ?_⟩
              · rw [hzs.1, List.length_take, List.length_map]
                exact szl (by omega)
              · rw [List.take_add_one, List.getElem?_map, hd]
                exact Al.snoc (hzs.mono fun _ _ h => (Ef.kt h (kt smn)).kt k7) ⟨tn, rfl, k7 _ _ upd_same⟩
            · rintro H6 ⟨sm6, zs, eD2, hzs⟩
              have hdl : (V.ref t0 :: xr).length = (ds.map fun d => (ap d.2 p.1, ap d.2 p.2)).length := by rw [List.length_map, hxl]
              rw [hdl, List.take_length] at hzs
              have el6 := sm6 _ _ el5
              have hzl : zs.length = ds.length := by rw [hzs.1, List.length_map]
              have hb := J.big
              refine ⟨lp, D2, ini, zs, rfl, rfl, el6, eD2, ?_, fun lq hlq => ?_⟩
              · exact sz (by rw [hLi, hzl]; rw [List.length_append] at hb; omega)
              · have smq := same_new (o := HO.lst (ini ++ zs)) hlq
                have smD := smB.trans sm6
                have eDn : upd H6 lq (.lst (ini ++ zs)) Dl = some (.lst (vns (mrg old new G))) := smq _ _ (sm6 _ _ eD')
                refine ⟨⟨Dl, lq, mrg old new G, Li ++ ds.map fun d => (ap d.2 p.1, ap d.2 p.2), ini ++ zs, _, _, _, _, rfl, smD.trans smq, ne_of_none (sm6 _ _ eD') hlq, none_back smD hlq, eDn, upd_same, ?_, J2⟩, ?_⟩
                · have a1 := hini5.mono fun _ _ h => Ef.kt h (kt (sm6.trans smq))
                  have a2 := hzs.mono fun _ _ h => Ef.kt h (kt smq)
                  exact al_append a1 a2
                · rw [mu1]
                  refine Nat.lt_of_le_of_lt (Nat.le_of_eq ?_) hmu
                  show (match upd H6 lq (.lst (ini ++ zs)) Dl with
                    | some (.lst xs) => 10 * (xs.map natV).sum
                    | _ => 0) + (match upd H6 lq (.lst (ini ++ zs)) lq with
                    | some (.lst xs) => xs.length
                    | _ => 0) = _
                  rw [eDn, upd_same]
                  show 10 * ((vns (mrg old new G)).map natV).sum + (ini ++ zs).length = _
                  rw [sum_natV, List.length_append, List.length_append, List.length_map, hLi, hzl]
        · refine ⟨⟨gp, lp, G, Li, ini, _, _, _, _, rfl, sm3, ngl, hlp0, eg3, el3, hini3, J.drop⟩, ?_⟩
          rw [mu1]
          show (match H3 gp with
            | some (.lst xs) => 10 * (xs.map natV).sum
            | _ => 0) + (match H3 lp with
            | some (.lst xs) => xs.length
            | _ => 0) < _
          rw [eg3, el3]
          show 10 * ((vns G).map natV).sum + ini.length < _
          rw [sum_natV, hLi, List.length_append]
          show _ < _ + (Li.length + 1)
          omega
    · rintro σ H Q Q' hq ⟨x, e0, hs, hl⟩
      refine ⟨x, e0, hs, fun p hp => ?_⟩
      obtain ⟨y1, y2, d1, d2, s1, s2, k, ek, h⟩ := hl p hp
      exact ⟨y1, y2, d1, d2, s1, s2, k, ek, hq _ _ h⟩
end
end EO
end
section
set_option Elab.async false
set_option linter.all false
set_option maxRecDepth 100000
set_option maxHeartbeats 1000000
/-! unbreakable -/
namespace EO
open PySem PySem.Spec PyProof.Rows L2
section
variable {P : Program} {w : World} {K : PySem.W.Frag} {mg : Str → Option Value} {base : Heap} {CM CN CS : Addr}
def spUnb : Sp := fun vs H Q _ => ∃ n ds l, vs = [.ref l] ∧ LD H l ds ∧ DG n ds ∧ 1 ≤ ds.length ∧ ∀ H' b, (b = true → ∀ x y, y < x → x < n → Joins n ds x y) → Same H H' → Q (.bl b) H'
abbrev sc__law_is_unbreakableN : List Str := ["_law_deeds_here", "_law_size", "_law_one", "_law_other"]
theorem sc__law_is_unbreakable : FnScope sc__law_is_unbreakableN ["_law_deeds_here"] (defScope (topS 57)) := ⟨rfl, rfl, rfl, by decide +kernel, rfl, by decide +kernel, by decide +kernel⟩
theorem ok__law_is_unbreakable (D : Dfn K mg "_law_is_unbreakable" (topS 57)) (T : Txt K mg CM) (c__law_joined : Fn P w K mg base 1 "_law_joined" spJoin) : Fn P w K mg base 2 "_law_is_unbreakable" spUnb := by
  refine fn_by D sc__law_is_unbreakable (fun _ _ _ _ _ _ us hl => match us, hl with | [_], _ => rfl) (fun vs H Q E h => ?_) (fun f cdv A outer s H vs Q E hr h => ?_)
  · obtain ⟨n, ds, l, rfl, _⟩ := h
    rfl
  · obtain ⟨n, ds, l, rfl, ⟨xs0, hl, hal0⟩, hdg, hd1, q⟩ := h
    refine ⟨_, (pss_cons (ps_set (i := 1) sc__law_is_unbreakable.nd rfl (Or.inl rfl) (pe_callB call_len_seq rfl T.len PySem.boot_len (pa_cons (pe_ix ix_tup (pe_ix ix_list (pv 0) pe_int (fun _ _ => rfl)) pe_int (fun _ _ => rfl)) pa_nil)))
 (pss_cons (ps_for PassesOwn.never rfl (pi_range1 rfl T.range (pa_cons (pv 1) pa_nil)) (pg_name (i := 2) sc__law_is_unbreakable.nd rfl (Or.inl rfl))
 (pss_one (ps_for PassesOwn.never rfl (pi_range1 rfl T.range (pa_cons (pv 2) pa_nil)) (pg_name (i := 3) sc__law_is_unbreakable.nd rfl (Or.inl rfl))
 (pss_one (ps_if (pt_cmpR op_gt (pe_f c__law_joined hr (by first | decide | omega) rfl (pa_cons (pv 0) (pa_cons (pv 2) (pa_cons (pv 3) pa_nil)))) pe_int (nomark _))
 (pss_one (ps_ret pe_bl))
 pss_nil)))))
 (pss_one (ps_ret pe_bl)))), ?_⟩
    have hn6 := hdg.hi
    obtain ⟨d0, dr, rfl⟩ : ∃ d0 dr, ds = d0 :: dr := by
      cases ds with
      | nil => exact absurd hd1 (by simp)
      | cons d0 dr => exact ⟨d0, dr, rfl⟩
    obtain ⟨x0, xr, rfl, ⟨t0, y0, rfl, g1, ⟨yy, rfl, g2⟩⟩, _⟩ := hal0.uncons
    have len0 : (vns d0.2).length = n := by rw [List.length_map, (hdg.ok d0 (List.mem_cons_self ..)).len]
    refine ⟨.ref l, rfl, l, _, 0, .ref t0, rfl, rfl, SqL.of hl, atI_nat (j := 0) rfl, t0, _, 1, .ref yy, rfl, rfl, SqT.of g1, rfl, yy, _, rfl, .inr (SqT.of g2), ?_⟩
    rw [len0]
    generalize hds : d0 :: dr = ds at *
    refine ⟨vn n, rfl, n, rfl, by omega, by omega, for_it walk_range (fun t σ H' => ∃ x2 x3, σ = [some (.ref l), some (vn n), x2, x3] ∧ Same H H' ∧ ∀ x y, y < x → x < t → Joins n ds x y) ⟨_, _, rfl, Same.refl _, fun x y _ h => absurd h (Nat.not_lt_zero x)⟩ (fun _ _ _ _ _ => True.intro) ?_ ?_⟩
    · rintro t y σ H1 H2 ht ⟨x2, x3, rfl, sm, hh⟩ ⟨rfl, rfl⟩
      have ht' : t < n := by omega
      refine ⟨_, rfl, _, rfl, by omega, by omega, for_it walk_range (fun s σ H' => ∃ x3, σ = [some (.ref l), some (vn n), some (.int (0 + (t : Int))), x3] ∧ Same H H' ∧ ∀ y, y < s → Joins n ds t y) ⟨_, rfl, sm, fun y h => absurd h (Nat.not_lt_zero y)⟩ (fun _ _ _ _ _ => True.intro) ?_ ?_⟩
      · rintro s y σ H3 H4 hs ⟨x3, rfl, sm3, hh2⟩ ⟨rfl, rfl⟩
        have hs' : s < t := by omega
        have et : V.int (0 + (t : Int)) = vn t := by rw [Int.zero_add]; rfl
        have es : V.int (0 + (s : Int)) = vn s := by rw [Int.zero_add]; rfl
        refine ⟨.ref l, rfl, _, rfl, _, rfl, n, ds, l, t, s, by show [V.ref l, V.int (0 + (t : Int)), V.int (0 + (s : Int))] = _; rw [et, es], ⟨_, sm3 _ _ hl, hal0.mono fun _ _ h => h.kt (kt sm3)⟩, hdg, hd1, ht', by omega, fun H5 m hm sm5 => ?_⟩
        refine ⟨(m : Int), 1, rfl, rfl, _, rfl, ite2 (fun z => ?_) (fun z => ?_)⟩
        · exact q _ false (fun h => (by cases h)) (sm3.trans sm5)
        · have hm1 : m ≤ 1 := by
            have : ¬ (1 : Int) < (m : Int) := fun h => z (decide_eq_true h)
            omega
          refine ⟨_, rfl, sm3.trans sm5, fun y hy => ?_⟩
          by_cases hys : y = s
          · rw [hys]; exact hm hm1
          · exact hh2 y (by omega)
      · rintro σ H3 ⟨x3, rfl, sm3, hh2⟩
        refine ⟨_, _, rfl, sm3, fun x y hxy hx => ?_⟩
        by_cases hxt : x = t
        · subst hxt
          exact hh2 y (by omega)
        · exact hh x y hxy (by omega)
    · rintro σ H1 ⟨x2, x3, rfl, sm, hh⟩
      exact q _ true (fun _ x y hxy hx => hh x y hxy (by omega)) sm
end
end EO
end
section
set_option Elab.async false
set_option linter.all false
set_option maxRecDepth 100000
set_option maxHeartbeats 1000000
/-! papers -/
namespace EO
open PySem PySem.Spec PyProof.Rows L2
/-- a paper to judge: a triple, or nothing like it -/
def Pp (CM : Addr) (H : Hp) (ds : List (Str × Eff)) (v : V) : Prop :=
  (∃ d, Rp CM H v d ∧ (isT d = false ∨ ∃ xs, d = .tuple xs ∧ xs.length ≠ 3 ∧ xs.length ≤ 1000)) ∨
  (∃ a x y z X Y Z, v = .ref a ∧ H a = some (.tup [x, y, z]) ∧ CpR CM H ds x X ∧ CpR CM H ds y Y ∧ ZtR CM H z Z)
theorem Pp.kx {CM : Addr} {H H' : Hp} {ds : List (Str × Eff)} {v : V} (h : Pp CM H ds v) (k : KX CM H H') : Pp CM H' ds v := by
  rcases h with ⟨d, h, e⟩ | ⟨a, x, y, z, X, Y, Z, e, h, hx, hy, hz⟩
  · exact .inl ⟨d, h.mono k, e⟩
  · exact .inr ⟨a, x, y, z, X, Y, Z, e, k.t _ _ h, hx.kx k, hy.kx k, hz.kx k⟩
/-- a name or a row of the listing -/
structure RowOk (ds : List (Str × Eff)) (r : List Str) : Prop where
  m : ∀ x ∈ r, x ∈ ds.map (·.1)
  l : r.length ≤ 900
theorem RowOk.cp {CM : Addr} {H : Hp} {ds : List (Str × Eff)} {n : Nat} {v : V} {r : List Str} (g : DG n ds) (o : RowOk ds r) (h : Rw H v r) : CpR CM H ds v (.row (r.map Pt.nm)) := by
  refine ⟨h.row (fun x hx => ?_) (by have := o.l; omega), fun r' k hm => ?_⟩
  · obtain ⟨p, hp, rfl⟩ := List.mem_map.mp (o.m x hx)
    exact g.nm p hp
  · obtain ⟨x, _, e⟩ := List.mem_map.mp hm
    cases e
theorem De.kx {CM : Addr} {H H' : Hp} {d b : Addr} (h : De H d b) (k : Kp d b H H') (h' : De H' d b) : KX CM H H' := by
  refine ⟨h.kt k, fun c xs e => ?_, fun c dx fs e => ⟨dx, fs, h.kn k c _ (fun _ z => nomatch z) e⟩⟩
  obtain ⟨ns, m, e1, e2, _⟩ := h'
  by_cases hd : c = d
  · exact ⟨_, hd ▸ e1⟩
  · by_cases hb : c = b
    · exact ⟨_, hb ▸ e2⟩
    · exact ⟨xs, k c _ hd hb e⟩
theorem De.upd {H : Hp} {d b p : Addr} {o : HO} (h : De H d b) (n1 : p ≠ d) (n2 : p ≠ b) : De (upd H p o) d b := by
  obtain ⟨ns, m, e1, e2, r⟩ := h
  exact ⟨ns, m, by rw [upd_ne (Ne.symm n1)]; exact e1, by rw [upd_ne (Ne.symm n2)]; exact e2, r⟩
structure Iv (CM d b : Addr) (H : Hp) (ds : List (Str × Eff)) (Dl : Addr) (wl : List V) (p : Addr) (m : Nat) (H' : Hp) : Prop where
  k : Kp d b H H'
  e : De H' d b
  w : H' Dl = some (.lst wl)
  f : ∃ ys, H' p = some (.lst ys) ∧ ys.length ≤ m ∧ ∀ v ∈ ys, Pp CM H' ds v
section
variable {CM d b Dl p : Addr} {H H1 H2 : Hp} {ds : List (Str × Eff)} {wl : List V} {m : Nat}
theorem Iv.step (h : Iv CM d b H ds Dl wl p m H1) (hde : De H d b) (hD : H Dl = none) (hp : H p = none) (k : Kp d b H1 H2) (e : De H2 d b) : Iv CM d b H ds Dl wl p m H2 := by
  obtain ⟨ys, f1, f2, f3⟩ := h.f
  exact ⟨h.k.trans k, e, k _ _ (hde.new hD).1 (hde.new hD).2 h.w, ys, k _ _ (hde.new hp).1 (hde.new hp).2 f1, f2, fun v hv => (f3 v hv).kx (h.e.kx k e)⟩
theorem Iv.push {ys : List V} {v : V} (h : Iv CM d b H ds Dl wl p m H1) (hde : De H d b) (hp : H p = none) (np : Dl ≠ p) (hy : H1 p = some (.lst ys)) (hv : Pp CM H1 ds v) : Iv CM d b H ds Dl wl p (m + 1) (upd H1 p (.lst (ys ++ [v]))) := by
  obtain ⟨zs, f1, f2, f3⟩ := h.f
  rw [hy] at f1
  cases f1
  have kk := kx_lst (CM := CM) (ys := ys ++ [v]) hy
  refine ⟨fun c o m1 m2 hc => ?_, h.e.upd (hde.new hp).1 (hde.new hp).2, by rw [upd_ne np]; exact h.w, _, upd_same, by simp; omega, fun u hu => ?_⟩
  · rw [upd_ne (ne_of_none hc hp)]
    exact h.k c o m1 m2 hc
  · rcases List.mem_append.mp hu with hu | hu
    · exact (f3 u hu).kx kk
    · rw [List.mem_singleton.mp hu]
      exact hv.kx kk
end
theorem cat_rw {K : PySem.W.Frag} {H : Hp} {x : V} {t : Addr} {r1 r2 : List Str} {Q' : VK} (h : Rw H x r1) (ht : H t = some (.tup (vss r2))) (hz : r1.length + r2.length ≤ sizeLine) (q : ∀ v H', Same H H' → Rw H' v (r1 ++ r2) → Q' v H') : rCatA K x (.ref t) H Q' := by
  obtain ⟨a, rfl, h⟩ := h
  refine ⟨a, t, _, _, rfl, rfl, SqT.of h, SqT.of ht, by rw [List.length_map, List.length_map]; exact hz, fun e => ?_, fun _ e => ?_, fun _ _ p hp => ?_⟩
  · have : r1 = [] := List.map_eq_nil_iff.mp e
    rw [this] at q
    exact q _ _ (Same.refl _) ⟨t, rfl, ht⟩
  · have : r2 = [] := List.map_eq_nil_iff.mp e
    rw [this, List.append_nil] at q
    exact q _ _ (Same.refl _) ⟨a, rfl, h⟩
  · exact q _ _ (same_new hp) ⟨p, rfl, by rw [upd_same]; exact congrArg (fun l => some (HO.tup l)) List.map_append.symm⟩
def Odd (CM : Addr) (H : Hp) (ds : List (Str × Eff)) (v : V) : Prop := (∃ X, CpR CM H ds v X) ∧ ∃ Z, ZtR CM H v Z
theorem Odd.kx {CM : Addr} {H H' : Hp} {ds : List (Str × Eff)} {v : V} (h : Odd CM H ds v) (k : KX CM H H') : Odd CM H' ds v :=
  let ⟨⟨X, a⟩, Z, b⟩ := h; ⟨⟨X, a.kx k⟩, Z, b.kx k⟩
theorem odd_mid {K : PySem.W.Frag} {CM : Addr} {H : Hp} {ds : List (Str × Eff)} {bt : Addr} {at_ : Nat} {x0 x1 x2 x4 x5 x6 x7 x8 x9 x12 : Option V} {ov bx by_ z : V} (h : H bt = some (.tup [bx, by_, z])) (ha : at_ < 3)
    (hX : ∃ X, CpR CM H ds bx X) (hY : ∃ X, CpR CM H ds by_ X) (hZ : ∃ Z, ZtR CM H z Z) (ho : Odd CM H ds ov) (Q' : VK) (q : ∀ v H', Same H H' → Pp CM H' ds v → Q' v H') :
    tOp (rCatA K) (tOp (rCatA K) (tSl (rSlT K) (tVar 3) tNoPart (tPart (tVar 11))) (tTup (tCons (tVar 10) tNil))) (tSl (rSlT K) (tVar 3) (tPart (tOp (rI0 fun i j => V.int (i + j)) (tVar 11) (tC (V.int 1)))) tNoPart)
      [x0, x1, x2, some (.ref bt), x4, x5, x6, x7, x8, x9, some ov, some (vn at_), x12] H Q' := by
  obtain ⟨X, hX⟩ := hX
  obtain ⟨Y, hY⟩ := hY
  obtain ⟨Z, hZ⟩ := hZ
  obtain ⟨⟨OX, hOX⟩, OZ, hOZ⟩ := ho
  have z1 : 1 ≤ sizeLine := by decide
  have z3 : 3 ≤ sizeLine := by decide
  have z2 : 2 ≤ sizeLine := by decide
  have fin : ∀ H' t u v w, Same H H' → H' t = some (.tup [u, v, w]) → (∃ X, CpR CM H ds u X) → (∃ X, CpR CM H ds v X) → (∃ X, ZtR CM H w X) → Q' (.ref t) H' := fun H' t u v w s e a b c => by
    obtain ⟨X, a⟩ := a
    obtain ⟨Y, b⟩ := b
    obtain ⟨Z, c⟩ := c
    exact q _ _ s (.inr ⟨t, u, v, w, X, Y, Z, rfl, e, a.kx (kx s), b.kx (kx s), c.kx (kx s)⟩)
  match at_, ha with
  | 0, _ =>
    refine ⟨.ref bt, rfl, vn 0, rfl, 0, rfl, bt, _, rfl, SqT.of h, by show ¬(HT.sIx 3 0 none = 0 ∧ HT.sIx 3 3 (some 0) = 3); decide, fun p hp => ⟨ov, rfl, z1, fun t ht => ⟨p, t, [], [ov], rfl, rfl, SqT.of (same_new ht _ _ upd_same), SqT.of upd_same, z1, fun _ => ?_, fun h => absurd rfl h, fun h => absurd rfl h⟩⟩⟩
    have s1 := (same_new (o := HO.tup []) hp).trans (same_new (o := HO.tup [ov]) ht)
    refine ⟨.ref bt, rfl, vn 0, rfl, 0, 1, rfl, rfl, _, rfl, bt, _, rfl, SqT.of (s1 _ _ h), by show ¬(HT.sIx 3 0 (some (0 + 1)) = 0 ∧ HT.sIx 3 3 none = 3); decide, fun p2 hp2 => ⟨t, p2, [ov], [by_, z], rfl, rfl, SqT.of (same_new hp2 _ _ upd_same), SqT.of upd_same, z3, fun e => absurd e (by simp), fun _ e => absurd e (by simp), fun _ _ p3 hp3 => ?_⟩⟩
    exact fin _ _ ov by_ z ((s1.trans (same_new hp2)).trans (same_new hp3)) upd_same ⟨_, hOX⟩ ⟨_, hY⟩ ⟨_, hZ⟩
  | 1, _ =>
    refine ⟨.ref bt, rfl, vn 1, rfl, 1, rfl, bt, _, rfl, SqT.of h, by show ¬(HT.sIx 3 0 none = 0 ∧ HT.sIx 3 3 (some 1) = 3); decide, fun p hp => ⟨ov, rfl, z1, fun t ht => ⟨p, t, [bx], [ov], rfl, rfl, SqT.of (same_new ht _ _ upd_same), SqT.of upd_same, z2, fun e => absurd e (by simp), fun _ e => absurd e (by simp), fun _ _ p4 hp4 => ?_⟩⟩⟩
    have s1 := ((same_new (o := HO.tup [bx]) hp).trans (same_new (o := HO.tup [ov]) ht)).trans (same_new (o := HO.tup [bx, ov]) hp4)
    refine ⟨.ref bt, rfl, vn 1, rfl, 1, 1, rfl, rfl, _, rfl, bt, _, rfl, SqT.of (s1 _ _ h), by show ¬(HT.sIx 3 0 (some (1 + 1)) = 0 ∧ HT.sIx 3 3 none = 3); decide, fun p2 hp2 => ⟨p4, p2, [bx, ov], [z], rfl, rfl, SqT.of (same_new hp2 _ _ upd_same), SqT.of upd_same, z3, fun e => absurd e (by simp), fun _ e => absurd e (by simp), fun _ _ p3 hp3 => ?_⟩⟩
    exact fin _ _ bx ov z ((s1.trans (same_new hp2)).trans (same_new hp3)) upd_same ⟨_, hX⟩ ⟨_, hOX⟩ ⟨_, hZ⟩
  | 2, _ =>
    refine ⟨.ref bt, rfl, vn 2, rfl, 2, rfl, bt, _, rfl, SqT.of h, by show ¬(HT.sIx 3 0 none = 0 ∧ HT.sIx 3 3 (some 2) = 3); decide, fun p hp => ⟨ov, rfl, z1, fun t ht => ⟨p, t, [bx, by_], [ov], rfl, rfl, SqT.of (same_new ht _ _ upd_same), SqT.of upd_same, z3, fun e => absurd e (by simp), fun _ e => absurd e (by simp), fun _ _ p4 hp4 => ?_⟩⟩⟩
    have s1 := ((same_new (o := HO.tup [bx, by_]) hp).trans (same_new (o := HO.tup [ov]) ht)).trans (same_new (o := HO.tup [bx, by_, ov]) hp4)
    refine ⟨.ref bt, rfl, vn 2, rfl, 2, 1, rfl, rfl, _, rfl, bt, _, rfl, SqT.of (s1 _ _ h), by show ¬(HT.sIx 3 0 (some (2 + 1)) = 0 ∧ HT.sIx 3 3 none = 3); decide, fun p2 hp2 => ⟨p4, p2, [bx, by_, ov], [], rfl, rfl, SqT.of (same_new hp2 _ _ upd_same), SqT.of upd_same, z3, fun e => absurd e (by simp), fun _ _ => ?_, fun _ e => absurd rfl e⟩⟩
    exact fin _ _ bx by_ ov (s1.trans (same_new hp2)) (same_new hp2 _ _ upd_same) ⟨_, hX⟩ ⟨_, hY⟩ ⟨_, hOZ⟩
section
variable {P : Program} {w : World} {K : PySem.W.Frag} {mg : Str → Option Value} {base : Heap} {CM CN CS : Addr}
def spPap (CM : Addr) : Sp := fun vs H Q _ => ∃ n ds d b l q xs F bv br, vs = [.ref d, .ref l, .ref q, bv] ∧ De H d b ∧ LD H l ds ∧ DG n ds ∧ 1 ≤ ds.length ∧ H q = some (.lst xs) ∧ Al (Prr H) xs F ∧ q ≠ d ∧ q ≠ b ∧ xs ≠ [] ∧ xs.length ≤ 1000 ∧ (∀ p ∈ F, RowOk ds p.2) ∧
  l ≠ d ∧ l ≠ b ∧ BrR H bv br ∧ (∀ u, br = some u → RowOk ds u.1 ∧ RowOk ds u.2.1) ∧
  ∀ H' p ys, H' p = some (.lst ys) → (∀ v ∈ ys, Pp CM H' ds v) → Kp d b H H' → De H' d b → Q (.ref p) H'
abbrev sc__law_papersN : List Str := ["_law_deal_here", "_law_deeds_here", "_law_listed_here", "_law_breach", "_law_words", "_law_size", "_law_found", "_law_turn", "_law_one", "_law_two", "_law_odd", "_law_at", "_law_deed"]
theorem sc__law_papers : FnScope sc__law_papersN ["_law_deal_here", "_law_deeds_here", "_law_listed_here", "_law_breach"] (defScope (topS 64)) := ⟨rfl, rfl, rfl, by decide +kernel, rfl, by decide +kernel, by decide +kernel⟩
theorem ok__law_papers (D : Dfn K mg "_law_papers" (topS 64)) (T : Txt K mg CM) (c__law_any : Fn P w K mg base 1 "_law_any" spAny) (c__law_of : Fn P w K mg base 2 "_law_of" spOf) (c__law_word : Fn P w K mg base 2 "_law_word" spWord) : Fn P w K mg base 3 "_law_papers" (spPap CM) := by
  refine fn_by D sc__law_papers (fun _ _ _ _ _ _ us hl => match us, hl with | [_, _, _, _], _ => rfl) (fun vs H Q E h => ?_) (fun f cdv A outer s H vs Q E hr h => ?_)
  · obtain ⟨n, ds, d, b, l, q, xs, F, bv, br, rfl, _⟩ := h
    rfl
  · obtain ⟨n, ds, d, b, l, q, xs, F, bv, br, rfl, hde, ⟨xs0, hl, hal0⟩, hdg, hd1, hq, hal, nq1, nq2, hx0, hxl, hrow, nl1, nl2, hbr, hbo, qq⟩ := h
    refine ⟨_, (pss_cons (ps_par (i := 4) (j := 5) rfl sc__law_papers.nd rfl rfl (by decide) rfl rfl (pa_cons (pe_lc (own := [("_law_deed", 12)]) rfl sc__law_papers.nd (pi_list (pv 1)) (blkOk_by (N := sc__law_papersN) (sc := defScope (topS 64)) (by decide +kernel)) (fun _ _ _ _ _ => (pg_name (i := 12) sc__law_papers.nd rfl (Or.inl rfl))) (fun _ _ _ _ _ => pts_nil) (fun _ _ _ _ _ => (pe_ix (ix_tup : IxR _ (rIxT K)) (pv 12) pe_int (fun _ _ => rfl)))) (pa_cons (pe_callB call_len_seq rfl T.len PySem.boot_len (pa_cons (pe_ix ix_tup (pe_ix ix_list (pv 1) pe_int (fun _ _ => rfl)) pe_int (fun _ _ => rfl)) pa_nil)) pa_nil)) (by rfl))
 (pss_cons (ps_set (i := 6) sc__law_papers.nd rfl (Or.inl rfl) (pe_lst pa_nil))
 (pss_cons (ps_for PassesOwn.never rfl (pi_range1 rfl T.range (pa_cons pe_int pa_nil)) (pg_name (i := 7) sc__law_papers.nd rfl (Or.inl rfl))
 (pss_cons (ps_par (i := 8) (j := 9) rfl sc__law_papers.nd rfl rfl (by decide) rfl rfl (pa_cons (pe_ix ix_tup (pe_f c__law_of hr (by first | decide | omega) rfl (pa_cons (pv 0) (pa_cons (pv 2) pa_nil))) pe_int (fun _ _ => rfl)) (pa_cons (pe_ix ix_tup (pe_f c__law_of hr (by first | decide | omega) rfl (pa_cons (pv 0) (pa_cons (pv 2) pa_nil))) pe_int (fun _ _ => rfl)) pa_nil)) (by rfl))
 (pss_cons (ps_expr (pe_bm PySem.F.plainAttrs_list PySem.F.slot_list_append PySem.F.type_list_append mt_append (pv 6) (pa_cons (pe_tup (pa_cons (pv 8) (pa_cons (pv 9) (pa_cons (pe_f c__law_of hr (by first | decide | omega) rfl (pa_cons (pv 0) (pa_cons (pe_lst (pa_cons pe_non (pa_cons (pe_f c__law_any hr (by first | decide | omega) rfl (pa_cons (pv 0) (pa_cons (pv 5) pa_nil))) (pa_cons (pe_f c__law_any hr (by first | decide | omega) rfl (pa_cons (pv 0) (pa_cons (pv 5) pa_nil))) pa_nil)))) pa_nil))) pa_nil)))) pa_nil)))
 (pss_one (ps_expr (pe_bm PySem.F.plainAttrs_list PySem.F.slot_list_append PySem.F.type_list_append mt_append (pv 6) (pa_cons (pe_tup (pa_cons (pe_tup (pa_cons (pe_tup (pa_cons (pv 8) (pa_cons (pe_op op_add pe_int (pe_f c__law_any hr (by first | decide | omega) rfl (pa_cons (pv 0) (pa_cons pe_int pa_nil)))) pa_nil))) pa_nil)) (pa_cons (pv 9) (pa_cons (pe_f c__law_any hr (by first | decide | omega) rfl (pa_cons (pv 0) (pa_cons (pv 5) pa_nil))) pa_nil)))) pa_nil)))))))
 (pss_cons (ps_if (pt_cmpR op_notN (pv 3) pe_non (nomark _))
 (pss_cons (ps_set (i := 10) sc__law_papers.nd rfl (Or.inl rfl) (pe_f c__law_of hr (by first | decide | omega) rfl (pa_cons (pv 0) (pa_cons (pe_lst (pa_cons pe_non (pa_cons pe_int (pa_cons (pv 5) (pa_cons (pe_op op_sub pe_int pe_int) (pa_cons pe_bl (pa_cons pe_str (pa_cons (pe_op op_sub (pv 5) pe_int) (pa_cons (pe_tup (pa_cons pe_int pa_nil)) pa_nil))))))))) pa_nil))))
 (pss_cons (ps_set (i := 11) sc__law_papers.nd rfl (Or.inl rfl) (pe_f c__law_any hr (by first | decide | omega) rfl (pa_cons (pv 0) (pa_cons pe_int pa_nil))))
 (pss_cons (ps_set (i := 6) sc__law_papers.nd rfl (Or.inl rfl) (pe_op op_cat (pv 6) (pe_lst (pa_cons (pv 3) (pa_cons (pe_tup (pa_cons (pe_ix ix_tup (pv 3) pe_int (fun _ _ => rfl)) (pa_cons (pe_ix ix_tup (pv 3) pe_int (fun _ _ => rfl)) (pa_cons (pe_ix ix_tup (pv 3) pe_int (fun _ _ => rfl)) pa_nil)))) (pa_cons (pe_op op_catA (pe_op op_catA (pe_slice sl_tup (pv 3) po_none (po_some (pv 11))) (pe_tup (pa_cons (pv 10) pa_nil))) (pe_slice sl_tup (pv 3) (po_some (pe_op op_add (pv 11) pe_int)) po_none)) (pa_cons (pe_callTy call_list_of rfl T.list PyProof.Rows.Boot.«list» (pa_cons (pv 3) pa_nil)) (pa_cons (pe_slice sl_tup (pv 3) po_none (po_some pe_int)) (pa_cons (pe_op op_catA (pv 3) (pe_tup (pa_cons pe_non pa_nil))) pa_nil)))))))))
 (pss_one (ps_expr (pe_bm PySem.F.plainAttrs_list PySem.F.slot_list_append PySem.F.type_list_append mt_append (pv 6) (pa_cons (pe_tup (pa_cons (pe_op op_catA (pe_ix ix_tup (pv 3) pe_int (fun _ _ => rfl)) (pe_tup (pa_cons (pe_f c__law_word hr (by first | decide | omega) rfl (pa_cons (pv 0) (pa_cons (pv 4) pa_nil))) pa_nil))) (pa_cons (pe_ix ix_tup (pv 3) pe_int (fun _ _ => rfl)) (pa_cons (pe_ix ix_tup (pv 3) pe_int (fun _ _ => rfl)) pa_nil)))) pa_nil)))))))
 pss_nil)
 (pss_one (ps_ret (pv 6))))))), ?_⟩
    have hn6 := hdg.hi
    obtain ⟨d0, dr, eds⟩ : ∃ d0 dr, ds = d0 :: dr := by
      cases ds with
      | nil => exact absurd hd1 (by simp)
      | cons d0 dr => exact ⟨d0, dr, rfl⟩
    obtain ⟨x0, h00, t0, y0, rfl, g1, yy, rfl, g2⟩ := hal0.at (i := 0) (x := d0) (by rw [eds]; rfl)
    have len0 : (vns d0.2).length = n := by rw [List.length_map, (hdg.ok d0 (by rw [eds]; exact List.mem_cons_self ..)).len]
    refine ⟨.ref l, rfl, l, rfl, ⟨_, SqL.of hl⟩, fun Dl hD => lc_it walk_list (fun i H' => Same H H' ∧ H' Dl = some (.lst (vss ((ds.map (·.1)).take i)))) ⟨same_new hD, upd_same⟩ (fun _ _ _ p => SqL.of (p.1 _ _ hl)) ?_ ?_⟩
    · rintro i z H2 H3 hi ⟨sm2, eD⟩ ⟨rfl, hz⟩
      obtain ⟨dd, hdd, t, y2, rfl, h1, h2⟩ := hal0.at' hz
      refine ⟨rfl, .ref t, rfl, t, _, 0, .str dd.1, rfl, rfl, SqT.of (sm2 _ _ h1), rfl, _, eD, ?_, same_at sm2 hD, ?_⟩
      · rw [List.length_map, List.length_take]
        exact szl (by have := hal0.1; have := hdg.few; rw [List.length_map]; omega)
      · rw [upd_same, List.take_add_one, List.getElem?_map, hdd, vss, vss, List.map_append]
        rfl
    rintro H2 ⟨sm2, eD⟩
    have eD' : H2 Dl = some (.lst (vss (ds.map (·.1)))) := by
      rw [eD, hal0.1, ← List.length_map (·.1), List.take_length]
    refine ⟨.ref l, rfl, l, _, 0, .ref t0, rfl, rfl, SqL.of (sm2 _ _ hl), ?_, t0, _, 1, .ref yy, rfl, rfl, SqT.of (sm2 _ _ g1), rfl, yy, _, rfl, .inr (SqT.of (sm2 _ _ g2)), ?_⟩
    · exact atI_nat (j := 0) h00
    rw [len0]
    have hn2 := hdg.lo
    have hDn : H Dl = none := hD
    refine ⟨_, _, rfl, Nat.zero_le _, fun p hp => ⟨_, rfl, by decide, by decide, for_it walk_range (fun t σ H' => ∃ x7 x8 x9, σ = [some (.ref d), some (.ref l), some (.ref q), some bv, some (.ref Dl), some (vn n), some (.ref p), x7, x8, x9, none, none, none] ∧ Iv CM d b H ds Dl (vss (ds.map (·.1))) p (2 * t) H') ⟨_, _, _, rfl, ?_⟩ (fun _ _ _ _ _ => True.intro) ?_ ?_⟩⟩
    · have smp := same_new (o := HO.lst []) hp
      exact ⟨Kp.same (sm2.trans smp), (hde.same sm2).same smp, smp _ _ eD', [], upd_same, Nat.zero_le _, fun v hv => absurd hv (by simp)⟩
    all_goals have hp0 : H p = none := none_back sm2 hp
    all_goals have npD : Dl ≠ p := ne_of_none eD' hp
    · rintro t y σ H3 H4 ht ⟨x7, x8, x9, rfl, I⟩ ⟨rfl, rfl⟩
      have ht4 : t < 4 := by simpa using ht
      refine ⟨.ref d, rfl, .ref q, rfl, d, b, q, xs, rfl, I.e, I.k _ _ nq1 nq2 hq, nq1, nq2, hx0, by omega, fun H5 i1 v1 hv1 k5 e5 => ?_⟩
      obtain ⟨pr1, hpr1, t1, ex1, y1, rfl, r1, f1, g1'⟩ := hal.at' hv1
      have kk5 := I.k.trans k5
      refine ⟨t1, _, 1, y1, rfl, rfl, SqT.of (hde.kt kk5 _ _ r1), rfl, .ref d, rfl, .ref q, rfl, d, b, q, xs, rfl, e5, kk5 _ _ nq1 nq2 hq, nq1, nq2, hx0, by omega, fun H6 i2 v2 hv2 k6 e6 => ?_⟩
      obtain ⟨pr2, hpr2, t2, ex2, y2, rfl, r2, f2, g2'⟩ := hal.at' hv2
      have kk6 := kk5.trans k6
      have I6 := I.step hde hDn hp0 (k5.trans k6) e6
      obtain ⟨ys, ep6, hyl, hyp⟩ := I6.f
      refine ⟨t2, _, 1, y2, rfl, rfl, SqT.of (hde.kt kk6 _ _ r2), rfl, _, _, rfl, .ref p, rfl, .inl ⟨rfl, _, SqL.of ep6⟩, y1, rfl, y2, rfl, .ref d, rfl, .ref d, rfl, vn n, rfl, d, b, n, rfl, by omega, by omega, e6, fun H7 a1 ha1 k7 e7 => ⟨.ref d, rfl, vn n, rfl, d, b, n, rfl, by omega, by omega, e7, fun H8 a2 ha2 k8 e8 => ⟨by show 3 ≤ sizeLine; decide, fun l3 hl3 => ⟨d, b, l3, _, rfl, e8.same (same_new hl3), upd_same, (e8.new hl3).1, (e8.new hl3).2, by simp, by simp, fun H9 ix xv hxv k9 e9 => ⟨by show 3 ≤ sizeLine; decide, fun t3 ht3 => ?_⟩⟩⟩⟩⟩
      have sl3 := same_new (o := HO.lst [V.non, vn a1, vn a2]) hl3
      have st3 := same_new (o := HO.tup [y1, y2, xv]) ht3
      have kt3 := k7.trans (k8.trans ((Kp.same sl3).trans (k9.trans (Kp.same st3))))
      have eT := e9.same st3
      have I9 := I6.step hde hDn hp0 kt3 eT
      have epT := kt3 _ _ (hde.new hp0).1 (hde.new hp0).2 ep6
      have hz : ∃ Z, ZtR CM (upd H9 t3 (.tup [y1, y2, xv])) xv Z := by
        match ix, hxv with
        | 0, h => exact ⟨.non, (Option.some.inj h).symm⟩
        | 1, h => exact ⟨.int a1, (Option.some.inj h).symm⟩
        | 2, h => exact ⟨.int a2, (Option.some.inj h).symm⟩
        | _ + 3, h => simp at h
      obtain ⟨Z, hZ⟩ := hz
      have ro1 := hrow pr1 (List.mem_of_getElem? hpr1)
      have ro2 := hrow pr2 (List.mem_of_getElem? hpr2)
      have hv3 : Pp CM (upd H9 t3 (.tup [y1, y2, xv])) ds (.ref t3) :=
        .inr ⟨t3, y1, y2, xv, _, _, Z, rfl, upd_same, ro1.cp hdg (g1'.kt (hde.kt I9.k)), ro2.cp hdg (g2'.kt (hde.kt I9.k)), hZ⟩
      have IA := I9.push hde hp0 npD epT hv3
      refine ⟨p, ys, .ref t3, rfl, rfl, epT, szl (by omega), ?_⟩
      refine ⟨.ref p, rfl, .inl ⟨rfl, _, SqL.of upd_same⟩, y1, rfl, .ref d, rfl, d, b, 3, rfl, by decide, by decide, IA.e, fun H10 a3 ha3 k10 e10 => ⟨1, a3, rfl, rfl, by show 2 ≤ sizeLine; decide, fun ta hta => ⟨by show 1 ≤ sizeLine; decide, fun tb htb => ⟨y2, rfl, .ref d, rfl, vn n, rfl, d, b, n, rfl, by omega, by omega, (e10.same (same_new hta)).same (same_new htb), fun H11 a4 ha4 k11 e11 => ⟨by show 3 ≤ sizeLine; decide, fun tc htc => ?_⟩⟩⟩⟩⟩
      have ea3 : V.int ((1 : Int) + (a3 : Int)) = vn (1 + a3) := by
        show _ = V.int (((1 + a3 : Nat)) : Int)
        rw [Int.natCast_add]
        rfl
      have sta := same_new (o := HO.tup [y1, V.int ((1 : Int) + (a3 : Int))]) hta
      have stb := same_new (o := HO.tup [V.ref ta]) htb
      have stc := same_new (o := HO.tup [V.ref tb, y2, vn a4]) htc
      have kt4 := k10.trans ((Kp.same (sta.trans stb)).trans (k11.trans (Kp.same stc)))
      have eC := e11.same stc
      have IC := IA.step hde hDn hp0 kt4 eC
      have epC := kt4 _ _ (hde.new hp0).1 (hde.new hp0).2 (upd_same (H := upd H9 t3 (.tup [y1, y2, xv])) (a := p) (o := .lst (ys ++ [.ref t3])))
      have nb := ((e10.same sta).new htb)
      have na := (e10.new hta)
      have hvc : Pp CM (upd H11 tc (.tup [.ref tb, y2, vn a4])) ds (.ref tc) := by
        refine .inr ⟨tc, .ref tb, y2, vn a4, .row [.pw pr1.2 (1 + a3)], _, .int a4, rfl, upd_same, ⟨⟨tb, [.ref ta], rfl, stc _ _ (k11 _ _ nb.1 nb.2 upd_same), Al.cons ⟨ta, y1, rfl, ?_, g1'.kt (hde.kt IC.k)⟩ Al.nil, ?_, (by show 1 ≤ 1000; decide)⟩, ?_⟩, ro2.cp hdg (g2'.kt (hde.kt IC.k)), rfl⟩
        · refine stc _ _ (k11 _ _ na.1 na.2 (stb _ _ ?_))
          rw [upd_same]
          exact congrArg (fun z => some (HO.tup [y1, z])) ea3
        · intro pt hpt
          rw [List.mem_singleton.mp hpt]
          refine ⟨fun x hx => ?_, by omega, by have := ro1.l; omega⟩
          obtain ⟨z, hz1, rfl⟩ := List.mem_map.mp (ro1.m x hx)
          exact hdg.nm z hz1
        · intro r k hm x hx
          have := List.mem_singleton.mp hm
          cases this
          exact ro1.m x hx
      have ID := IC.push hde hp0 npD epC hvc
      exact ⟨p, _, .ref tc, rfl, rfl, epC, szl (by simp; omega), _, _, _, rfl, ID⟩
    · rintro σ H3 ⟨x7, x8, x9, rfl, I⟩
      obtain ⟨ys, ep, hyl, hyp⟩ := I.f
      have kt3 := hde.kt I.k
      cases br with
      | none =>
        cases hbr
        exact ⟨.non, rfl, rfl, _, rfl, ite2 (fun z => absurd z (by decide)) (fun z => ⟨_, rfl, qq _ _ _ ep hyp I.k I.e⟩)⟩
      | some u =>
        obtain ⟨bt, bx, by_, rfl, hb, hbx, hby⟩ := hbr
        have hb3 := kt3 _ _ hb
        refine ⟨.ref bt, rfl, rfl, _, rfl, ite2 (fun z => ?_) (fun z => absurd rfl z)⟩
        obtain ⟨hob1, hob2⟩ := hbo u rfl
        have z1 : 1 ≤ sizeLine := by decide
        have z3 : 3 ≤ sizeLine := by decide
        have z4 : 4 ≤ sizeLine := by decide
        refine ⟨.ref d, rfl, vn n, rfl, 0, 1, rfl, rfl, vn n, rfl, n, 1, rfl, rfl, z1, fun t0 ht0 => ⟨by show 8 ≤ sizeLine; decide, fun lo hlo => ⟨d, b, lo, _, rfl, (I.e.same (same_new ht0)).same (same_new hlo), upd_same, ((I.e.same (same_new ht0)).new hlo).1, ((I.e.same (same_new ht0)).new hlo).2, by simp, by simp, fun H5 ix ov hov k5 e5 => ?_⟩⟩⟩
        have st0 := same_new (o := HO.tup [V.int 0]) ht0
        have slo := same_new (o := HO.lst [V.non, V.int 0, vn n, V.int (0 - 1), V.bl true, V.str (Str.ofString "a"), V.int ((n : Int) - 1), V.ref t0]) hlo
        have nt0 := I.e.new ht0
        have et0 := k5 _ _ nt0.1 nt0.2 (slo t0 _ upd_same)
        have k5' := (Kp.same (st0.trans slo)).trans k5
        have I5 := I.step hde hDn hp0 k5' e5
        have hodd : Odd CM H5 ds ov := by
          have oI : ∀ i : Int, Odd CM H5 ds (.int i) := fun i => ⟨⟨.oth, _, .int i, rfl⟩, .int i, rfl⟩
          match ix, hov with
          | 0, h => cases h; exact ⟨⟨.oth, _, .non, rfl⟩, .non, rfl⟩
          | 1, h => cases h; exact oI _
          | 2, h => cases h; exact oI _
          | 3, h => cases h; exact oI _
          | 4, h => cases h; exact ⟨⟨.oth, _, .bl true, rfl⟩, .oth, _, .bl true, rfl, rfl, by simp⟩
          | 5, h => cases h; exact ⟨⟨.oth, _, .str _, rfl⟩, .oth, _, .str _, rfl, rfl, by simp⟩
          | 6, h => cases h; exact oI _
          | 7, h =>
            cases h
            refine ⟨⟨.row [.od], ⟨t0, [.int 0], rfl, et0, Al.cons rfl Al.nil, ?_, by decide⟩, ?_⟩, .oth, _, .tup et0 (.cons (.int 0) .nil), rfl, rfl, by simp⟩
            · intro pt hpt
              rw [List.mem_singleton.mp hpt]
              exact True.intro
            · intro r k hm
              cases List.mem_singleton.mp hm
          | _ + 8, h => simp at h
        refine ⟨.ref d, rfl, d, b, 3, rfl, by decide, by decide, e5, fun H6 at_ hat k6 e6 => ?_⟩
        have I6 := I5.step hde hDn hp0 k6 e6
        have hodd6 := hodd.kx (e5.kx k6 e6)
        have kA := I6.k
        have eb6 := hde.kt kA _ _ hb
        obtain ⟨ys, ep6, hyl6, hyp6⟩ := I6.f
        refine ⟨.ref p, rfl, .ref bt, rfl, .ref bt, rfl, bt, _, 1, by_, rfl, rfl, SqT.of eb6, rfl, .ref bt, rfl, bt, _, 0, bx, rfl, rfl, SqT.of eb6, rfl, .ref bt, rfl, bt, _, 2, vo u.2.2, rfl, rfl, SqT.of eb6, rfl, z3, fun s1 hs1 => ?_⟩
        have ss1 := same_new (o := HO.tup [by_, bx, vo u.2.2]) hs1
        have hzz : ∃ Z, ∀ H', ZtR CM H' (vo u.2.2) Z := by
          cases u.2.2 with
          | none => exact ⟨.non, fun _ => rfl⟩
          | some i => exact ⟨.int i, fun _ => rfl⟩
        obtain ⟨Z1, hZ1⟩ := hzz
        have ktA := hde.kt kA
        have hcx : ∃ X, CpR CM H6 ds bx X := ⟨_, hob1.cp hdg (hbx.kt ktA)⟩
        have hcy : ∃ X, CpR CM H6 ds by_ X := ⟨_, hob2.cp hdg (hby.kt ktA)⟩
        refine odd_mid (ss1 _ _ eb6) hat (let ⟨_, h⟩ := hcx; ⟨_, h.kx (kx ss1)⟩) (let ⟨_, h⟩ := hcy; ⟨_, h.kx (kx ss1)⟩) ⟨Z1, hZ1 _⟩ (hodd6.kx (kx ss1)) _ (fun v3 H8 s8 hpp3 => ?_)
        have sm8 := ss1.trans s8
        refine ⟨.ref bt, rfl, bt, _, rfl, .inr (SqT.of (sm8 _ _ eb6)), fun l4 hl4 => ?_⟩
        have sl4 := same_new (o := HO.lst [bx, by_, vo u.2.2]) hl4
        have sm9 := sm8.trans sl4
        refine ⟨.ref bt, rfl, 2, rfl, bt, _, rfl, SqT.of (sm9 _ _ eb6), by show ¬(HT.sIx 3 0 none = 0 ∧ HT.sIx 3 3 (some 2) = 3); decide, fun s5 hs5 => ?_⟩
        have ss5 := same_new (o := HO.tup [bx, by_]) hs5
        have sm10 := sm9.trans ss5
        refine ⟨.ref bt, rfl, z1, fun s6 hs6 => ?_⟩
        have ss6 := same_new (o := HO.tup [V.non]) hs6
        have sm11 := sm10.trans ss6
        refine ⟨bt, s6, _, _, rfl, rfl, SqT.of (sm11 _ _ eb6), SqT.of upd_same, z4, fun e => absurd e (by simp), fun _ e => absurd e (by simp), fun _ _ s7 hs7 => ⟨by show 6 ≤ sizeLine; decide, fun lq hlq => ?_⟩⟩
        have ss7 := same_new (o := HO.tup [bx, by_, vo u.2.2, V.non]) hs7
        have sslq := same_new (o := HO.lst [.ref bt, .ref s1, v3, .ref l4, .ref s5, .ref s7]) hlq
        have sm12 := sm11.trans ss7
        have sm13 := sm12.trans sslq
        refine ⟨p, lq, ys, _, rfl, rfl, sm13 _ _ ep6, upd_same, ?_, fun p' hp' => ?_⟩
        · have h1 : ys.length ≤ 8 := hyl6
          have h2 : (14 : Nat) ≤ sizeLine := by decide
          show ys.length + 6 ≤ sizeLine
          omega
        have I13 : Iv CM d b H ds Dl (vss (ds.map (·.1))) p (2 * Int.toNat 4) _ := I6.step hde hDn hp0 (Kp.same sm13) (e6.same sm13)
        have hp'0 : H p' = none := kp_none I13.k I13.e hp'
        have npD' : Dl ≠ p' := ne_of_none I13.w hp'
        have ssp := same_new (o := HO.lst (ys ++ [.ref bt, .ref s1, v3, .ref l4, .ref s5, .ref s7])) hp'
        have sm14 := sm13.trans ssp
        have kx14 := kx (CM := CM) sm14
        have c14x : ∃ X, CpR CM _ ds bx X := let ⟨_, h⟩ := hcx; ⟨_, h.kx kx14⟩
        have c14y : ∃ X, CpR CM _ ds by_ X := let ⟨_, h⟩ := hcy; ⟨_, h.kx kx14⟩
        obtain ⟨X1, c14x⟩ := c14x
        obtain ⟨Y1, c14y⟩ := c14y
        have rp_x := (hbx.rp (CM := CM)).mono (hde.kx kA e6)
        have rp_y := (hby.rp (CM := CM)).mono (hde.kx kA e6)
        have rp_z : ∃ dz, Rp CM H6 (vo u.2.2) dz := by
          cases u.2.2 with
          | none => exact ⟨_, .non⟩
          | some i => exact ⟨_, .int i⟩
        obtain ⟨dz, rp_z⟩ := rp_z
        have IPk := I13.k.trans (Kp.same ssp)
        have IP := Iv.mk (CM := CM) (ds := ds) (Dl := Dl) (wl := vss (ds.map (·.1))) (p := p') (m := 14) IPk ((e6.same sm13).same ssp) (ssp _ _ I13.w) (by
          refine ⟨_, upd_same, ?_, fun v hv => ?_⟩
          · have h1 : ys.length ≤ 8 := hyl6
            simp
            omega
          rcases List.mem_append.mp hv with hv | hv
          · exact (hyp6 v hv).kx kx14
          · rcases List.mem_cons.mp hv with rfl | hv
            · exact .inr ⟨bt, bx, by_, vo u.2.2, _, _, Z1, rfl, sm14 _ _ eb6, c14x, c14y, hZ1 _⟩
            rcases List.mem_cons.mp hv with rfl | hv
            · exact .inr ⟨s1, by_, bx, vo u.2.2, _, _, Z1, rfl, ssp _ _ (sslq _ _ (ss7 _ _ (ss6 _ _ (ss5 _ _ (sl4 _ _ (s8 _ _ upd_same)))))), c14y, c14x, hZ1 _⟩
            rcases List.mem_cons.mp hv with rfl | hv
            · exact hpp3.kx (kx ((((sl4.trans ss5).trans ss6).trans ss7).trans (sslq.trans ssp)))
            rcases List.mem_cons.mp hv with rfl | hv
            · exact .inl ⟨_, .lst (ssp _ _ (sslq _ _ (ss7 _ _ (ss6 _ _ (ss5 _ _ upd_same))))), .inl rfl⟩
            rcases List.mem_cons.mp hv with rfl | hv
            · exact .inl ⟨_, .tup (ssp _ _ (sslq _ _ (ss7 _ _ (ss6 _ _ upd_same)))) (.cons (rp_x.mono kx14) (.cons (rp_y.mono kx14) .nil)), .inr ⟨_, rfl, by simp, by simp⟩⟩
            rcases List.mem_cons.mp hv with rfl | hv
            · exact .inl ⟨_, .tup (ssp _ _ (sslq _ _ upd_same)) (.cons (rp_x.mono kx14) (.cons (rp_y.mono kx14) (.cons (rp_z.mono kx14) (.cons .non .nil)))), .inr ⟨_, rfl, by simp, by simp⟩⟩
            · exact absurd hv (by simp))
        have ebP := sm14 _ _ eb6
        have hfew := hdg.few
        refine ⟨.ref p', rfl, .inl ⟨rfl, _, SqL.of upd_same⟩, .ref bt, rfl, bt, _, 0, bx, rfl, rfl, SqT.of ebP, rfl, .ref d, rfl, .ref Dl, rfl, d, b, Dl, ds.map (·.1), rfl, IP.e, IP.w, (hde.new hDn).1, (hde.new hDn).2, by rw [List.length_map]; exact hfew, fun H20 zz hz1 hz2 k20 e20 => ⟨z1, fun t7 ht7 => ?_⟩⟩
        have st7 := same_new (o := HO.tup [V.str zz]) ht7
        have k21 := k20.trans (Kp.same st7)
        have e21 := e20.same st7
        have IQ := IP.step hde hDn hp'0 k21 e21
        have ol1 := hob1.l
        refine cat_rw (r1 := u.1) (r2 := [zz]) (hbx.kt (hde.kt IQ.k)) upd_same ?_ (fun vr H22 s22 hvr => ?_)
        · have h2 : (1000 : Nat) ≤ sizeLine := by decide
          simp
          omega
        have IR := IQ.step hde hDn hp'0 (Kp.same s22) (e21.same s22)
        have ebR := hde.kt IR.k _ _ hb
        refine ⟨.ref bt, rfl, bt, _, 1, by_, rfl, rfl, SqT.of ebR, rfl, .ref bt, rfl, bt, _, 2, vo u.2.2, rfl, rfl, SqT.of ebR, rfl, z3, fun t9 ht9 => ?_⟩
        have st9 := same_new (o := HO.tup [vr, by_, vo u.2.2]) ht9
        have IS := IR.step hde hDn hp'0 (Kp.same st9) (IR.e.same st9)
        obtain ⟨ys9, ep9, hyl9, hyp9⟩ := IS.f
        have hv9 : Pp CM (upd H22 t9 (.tup [vr, by_, vo u.2.2])) ds (.ref t9) := by
          refine .inr ⟨t9, vr, by_, vo u.2.2, .row ((u.1 ++ [zz]).map Pt.nm), _, Z1, rfl, upd_same, ⟨(hvr.kt (kt st9)).row (fun x hx => ?_) (by simp; omega), fun r' k hm => ?_⟩, hob2.cp hdg (hby.kt (hde.kt IS.k)), hZ1 _⟩
          · rcases List.mem_append.mp hx with hx | hx
            · obtain ⟨pp, hpp, rfl⟩ := List.mem_map.mp (hob1.m x hx)
              exact hdg.nm pp hpp
            · rw [List.mem_singleton.mp hx]
              exact hz1
          · obtain ⟨x, _, e⟩ := List.mem_map.mp hm
            cases e
        have IT := IS.push hde hp'0 npD' ep9 hv9
        obtain ⟨ysZ, epZ, _, hypZ⟩ := IT.f
        rw [upd_same] at epZ
        cases epZ
        exact ⟨p', ys9, .ref t9, rfl, rfl, ep9, szl (by omega), ⟨_, rfl, qq _ _ _ upd_same hypZ IT.k IT.e⟩⟩
end
end EO
end
section
set_option Elab.async false
set_option linter.all false
set_option maxRecDepth 100000
set_option maxHeartbeats 1000000
/-! what is heard; reprs of truths; promises told where nothing is guarded -/
namespace EO
open PySem PySem.Spec PyProof.Rows L2
/-- try: work() / except InvalidSize as error: return error.word / return None -/
def THeard (K : PySem.W.Frag) (CS : Addr) : (XK → Hp → VK → Prop) → Hp → VK → Prop := fun tl H Q =>
  tl (fun cls d H' => ∃ b, PySem.W.exmOne K cls (.ref CS) = some b ∧ (b = true → cls = .ref CS ∧ ∃ (dd : Addr) (fs : List (Str × V)) (v : V), d = some dd ∧ H' dd = some (.xd fs) ∧ fs.lookup ("word" : Str) = some v ∧ Q v H') ∧ (b = false → False)) H (fun _ H' => Q .non H')
/-- a slot read where the number of slots is known -/
theorem pe_len {X : Cx} {e : Expr} {i : Nat} {N : List Str} (hN : X.N = N) (h : PE X e (tVar i)) : PE X e (fun σ H Q => σ.length = N.length → tVar i σ H Q) :=
  ⟨fun pins s σ H Q I q => h.run pins s σ H Q I (q (by rw [← hN]; exact I.len))⟩
abbrev sc__law_heardN : List Str := ["_law_work", "error"]
theorem sc__law_heard : FnScope sc__law_heardN ["_law_work"] (defScope (topS 65)) := ⟨rfl, rfl, rfl, by decide +kernel, rfl, by decide +kernel, by decide +kernel⟩
theorem heard_gives {X : Cx} {g CS : Addr} {cdg : Value} {q : Str} (hme : X.mg "InvalidSize" = some (.ref CS)) (XF : XfC X.K CS) (hno : PySem.W.findIn X.K (.ref CS) "word" = some none) :
    LamX.GivesTo X sc__law_heardN "_law_heard" (defScope (topS 65)) g cdg (defBody (topS 65)) "_law_work" q (THeard X.K CS) := by
  intro f c' s H Q tl act hc h
  refine ⟨_, pss_cons (ps_try_as (X := (cxOf C8.CX0 X.prog X.w X.K X.mg X.base sc__law_heardN "_law_heard" (defScope (topS 65)) g cdg X.A X.stack s H C8.E0).nox) (c := .ref CS) (i := 1)
      (tb := fun W D σ H => ∃ Ech : XK, (∀ cls d σ' H', Ech cls d H' → W cls d σ' H') ∧ σ[0]? = some (some (.ref f)) ∧ H c' = some (LamX.CodeO c' q) ∧ tl Ech H (fun _ H' => D.nx σ H'))
      rfl rfl sc__law_heard.nd rfl rfl ⟨rfl, by decide, .inl hme⟩ LamX.takes0 (fun W pn xe tk _ => ?_) (fun a oe cls d pn hz hf => pss_one (ps_ret (pe_xf XF hno hz hf (pe_len (i := 1) (N := sc__law_heardN) rfl (pv 1)))))) (pss_one (ps_ret pe_non)), ?_⟩
  · refine ⟨fun pins s' σ H' D I h' => ?_⟩
    obtain ⟨Ech, hW, h1, h2, h3⟩ := h'
    exact (pss_one (ps_expr (act W pn xe Ech _ _ tk hW))).run pins s' σ H' D I ⟨h1, h2, h3⟩
  · refine ⟨_, fun cls d σ' H' ⟨b, e1, e2, e3⟩ => ⟨b, e1, fun hb a _ => ?_, fun hb => e3 hb⟩, rfl, hc, h⟩
    obtain ⟨ec, dd, fs, v, e4, e5, e6, e7⟩ := e2 hb
    refine fun hlen => ⟨.ref a, ?_, rfl, ec, dd, fs, v, e4, e5, e6, e7⟩
    have hl2 : σ'.length = 2 := by rw [List.length_set] at hlen; exact hlen
    match σ', hl2 with
    | [_, _], _ => rfl
/-! ### reprs of truths -/
theorem cr_reprB {X : Cx} : CallR X (.builtin "repr") (fun xs H Q => ∃ b, xs = [.bl b] ∧ Q (.str (if b then "True" else "False")) H) := by
  intro pins s σ H xs us Q I r h
  obtain ⟨b, rfl, q⟩ := h
  obtain ⟨u, rfl, e⟩ := vals1 r
  cases e
  exact PySem.P.repr_of_bool ⟨.str _, H, I.tok _, ⟨_, rfl⟩, q⟩
/-! ### a def whose code object is known -/
structure DfnC (K : PySem.W.Frag) (mg : Str → Option Value) (x : Str) (st : Stmt) (cd : Value) : Prop where
  ex : ∃ (f : Addr) (oc : Value) (od : Option Addr) (kV doc pm : Value) (an : Option Addr) (ct : Value) (osl : Array (Option Value)),
    K.lookup f = some ⟨oc, od, .func (PySem.W.fnOf x x (defArgs st) (defBody st) (defScope st) .none kV doc pm an cd ct), osl⟩ ∧ PySem.W.codeIn K cd x = true ∧ mg x = some (.ref f) ∧ PySem.W.keepIn K (.ref f) = true
/-- a def that is called where nothing is guarded -/
structure FnG (P : Program) (w : World) (K : PySem.W.Frag) (mg : Str → Option Value) (base : Heap) (k : Nat) (x : Str) (sp : Sp) : Prop where
  ex : ∃ (f : Addr) (fd : FuncData) (ps : List Str), (∀ vs H Q E, sp vs H Q E → vs.length = ps.length) ∧
    (∀ (A : Around) (outer : List Env) (s : Shared) (H : Hp) (args : Args) (us : List Value) (vs : List V) (Q : VK) (E : XK), A.guards = some [] → Room k A → Env0 P w K mg base A outer s H → BindsTo s fd args (ps.zip us) → Vals vs us → sp vs H Q E →
      codeAny (model P w) A (.call (.ref f) args) (CR CX0 outer P w H s Q E) s) ∧ mg x = some (.ref f) ∧ PySem.W.keepIn K (.ref f) = true ∧ Binds K fd ps []
section
variable {P : Program} {w : World} {K : PySem.W.Frag} {mg : Str → Option Value} {base : Heap}
theorem fn_byC {x : Str} {st : Stmt} {cd : Value} {N ps : List Str} {k : Nat} {sp : Sp} (D : DfnC K mg x st cd) (S : FnScope N ps (defScope st))
    (hb : ∀ (kV doc pm : Value) (an : Option Addr) (cdv ct : Value) (us : List Value), us.length = ps.length → bindArgs (PySem.W.fnOf x x (defArgs st) (defBody st) (defScope st) .none kV doc pm an cdv ct) ⟨us, []⟩ = pure (ps.zip us))
    (len : ∀ vs H Q E, sp vs H Q E → vs.length = ps.length)
    (body : ∀ (f : Addr) (A : Around) (outer : List Env) (s : Shared) (H : Hp) (vs : List V) (Q : VK) (E : XK), Room k (A.deeper (envOfC x (defScope st) s.heap.objs.size f cd)) → sp vs H Q E →
      ∃ t, PSs (cxOf CX0 P w K mg base N x (defScope st) f cd A outer s H E).nox (defBody st) t ∧ t { nx := fun _ H' => Q .non H', rt := Q } (start N vs) H) : Fn P w K mg base (k + 1) x sp := by
  obtain ⟨f, oc, od, kV, doc, pm, an, ct, osl, lk, hcd, m, kp⟩ := D.ex
  refine ⟨f, _, ps, fn_of lk hcd S len fun A outer s H vs Q E hr hs => ?_, m, kp, .all (hb kV doc pm an cd ct)⟩
  obtain ⟨t, ht, q⟩ := body f A outer s H vs Q E hr hs
  exact ⟨t, ht.nox, q⟩
theorem fn_byG {x : Str} {st : Stmt} {N ps : List Str} {k : Nat} {sp : Sp} (D : Dfn K mg x st) (S : FnScope N ps (defScope st))
    (hb : ∀ (kV doc pm : Value) (an : Option Addr) (cdv ct : Value) (us : List Value), us.length = ps.length → bindArgs (PySem.W.fnOf x x (defArgs st) (defBody st) (defScope st) .none kV doc pm an cdv ct) ⟨us, []⟩ = pure (ps.zip us))
    (len : ∀ vs H Q E, sp vs H Q E → vs.length = ps.length)
    (body : ∀ (f : Addr) (cdv : Value) (A : Around) (outer : List Env) (s : Shared) (H : Hp) (vs : List V) (Q : VK) (E : XK), (A.deeper (envOfC x (defScope st) s.heap.objs.size f cdv)).guards = some [] → Room k (A.deeper (envOfC x (defScope st) s.heap.objs.size f cdv)) → sp vs H Q E →
      ∃ t, PSs (cxOf CX0 P w K mg base N x (defScope st) f cdv A outer s H E).nox (defBody st) t ∧ t { nx := fun _ H' => Q .non H', rt := Q } (start N vs) H) : FnG P w K mg base (k + 1) x sp := by
  obtain ⟨f, fd, F, m⟩ := D.ex
  have b := F.binds hb
  have kp := F.kp
  obtain ⟨oc, od, kV, doc, pm, an, cdv, ct, osl, rfl, lk, hcd⟩ := F.ex
  refine ⟨f, _, ps, len, fun A outer s H args us vs Q E hg hr e0 hbt r hs => LamX.run_ofS lk hcd S hr e0 hbt r (len _ _ _ _ hs) fun hr' => ?_, m, kp, b⟩
  obtain ⟨t, ht, q⟩ := body f cdv A outer s H vs Q E hg hr' hs
  exact ⟨t, ht.nox, q⟩
end
section
variable {X : Cx} {k j : Nat} {x : Str} {sp : Sp} {p pos : Pos} {e : Expr} {es : List Expr} {t : TA}
theorem pe_g (c : FnG X.prog X.w X.K X.mg X.base k x sp) (hgd : X.A.guards = some []) (hr : Room j X.A) (hk : k ≤ j) (hg : Gl X x) (ha : PA X (e :: es) t)
    (hdb : (x == ("__debug__" : Str)) = false := by decide) (he : starEach (e :: es) X.env = (false, eval e X.env) :: starEach es X.env := by rfl) (hpl : (backTo pos (starEach es X.env)).any (·.1) = false := by rfl) :
    PE X (.Call (.Name x p) (e :: es) [] pos) (tCall sp [] E0 t) := by
  obtain ⟨f, fd, ps, ln, F, m, kp, b⟩ := c.ex
  refine ⟨fun pins s σ H Q I h => wpAny_Call_Name_kw (ld_glob I hg m (PySem.W.callWith_K (h₀ := X.base) I.ok.mod.kin kp (L2.thn (ha.run pos pins s σ H _ I h) fun us s1 ⟨vs, H1, I1, r, q⟩ => ⟨I1.kIn, ?_⟩) he hpl) hdb)⟩
  have q : sp vs H1 Q E0 := by
    have q' : sp (vs ++ []) H1 Q E0 := q
    rw [List.append_nil] at q'
    exact q'
  have hl : us.length = ps.length := r.length.symm.trans (ln _ _ _ _ q)
  have bb := b s1 us I1.kIn (by rw [List.append_nil]; exact hl)
  rw [List.append_nil] at bb
  refine wpAny_call (codeAny_mono (F X.A X.stack s1 H1 ⟨us, []⟩ us vs Q E0 hgd (hr.mono hk) I1.env0 bb r q) fun fl s' hq => ?_)
  match fl, hq with
  | .error _, hq => exact (show False from hq).elim
  | .ok (.ret _), hq => exact I1.after hq
end
end EO
end
section
set_option Elab.async false
set_option linter.all false
set_option maxRecDepth 100000
set_option maxHeartbeats 1000000
/-! a breach's text; the first breach of a listing and of its beginning -/
namespace EO
open PySem PySem.Spec PyProof.Rows L2
def rwD (r : List Str) : PyData := .tuple (r.map PyData.str)
def atD : Option Nat → PyData
  | none => .none
  | some i => .int i
def brD (u : Br) : PyData := .tuple [rwD u.1, rwD u.2.1, atD u.2.2]
structure BrS (u : Br) : Prop where
  a : ∀ x ∈ u.1, nmS x = true
  b : ∀ x ∈ u.2.1, nmS x = true
  la : u.1.length ≤ 900
  lb : u.2.1.length ≤ 900
  i : ∀ i, u.2.2 = some i → i < 10
theorem abc_ok : PyData.strOk abc = true := by decide +kernel
theorem nmS_str {x : Str} (h : nmS x = true) : PyData.strOk x = true := by
  unfold nmS at h
  simp only [Bool.and_eq_true, decide_eq_true_eq, List.all_eq_true] at h
  have ha := abc_ok
  unfold PyData.strOk at ha ⊢
  rw [Array.all_eq_true_iff_forall_mem] at ha ⊢
  intro c hc
  have := h.2.2 c (Array.mem_toList_iff.mpr hc)
  unfold ltr at this
  exact ha c (Array.mem_toList_iff.mp (of_decide_eq_true this))
theorem rw_lay : ∀ r : List Str, (∀ x ∈ r, nmS x = true) → PyData.canLayAll0 (r.map PyData.str) = true ∧ PyData.showableAll (r.map PyData.str) = true ∧ PyData.depthAll (r.map PyData.str) = 0 ∧ PyData.weightAll (r.map PyData.str) ≤ 9 * r.length ∧ PyData.intsShortAll 13 (r.map PyData.str) = true
  | [], _ => ⟨rfl, rfl, rfl, Nat.le_refl _, rfl⟩
  | x :: r, h => by
    obtain ⟨h1, h2, h3, h4, h5⟩ := rw_lay r fun y hy => h y (List.mem_cons_of_mem _ hy)
    have hx := h x (List.mem_cons_self ..)
    have hl := nmS_len hx
    have hl' : x.cps.size ≤ 8 := hl
    refine ⟨?_, ?_, ?_, ?_, ?_⟩
    · simp [PyData.canLayAll0, PyData.canLay0, nmS_str hx, h1]
    · simp [PyData.showableAll, PyData.showable, h2]
    · simp [PyData.depthAll, PyData.depth, h3]
    · simp only [List.map_cons, PyData.weightAll, PyData.weight, List.length_cons]
      omega
    · simp [PyData.intsShortAll, PyData.intsShort, h5]
theorem at_ok : ∀ {o : Option Nat}, (∀ i, o = some i → i < 10) → (atD o).canLay0 = true ∧ (atD o).showable = true ∧ (atD o).depth = 0 ∧ (atD o).weight ≤ 4 ∧ (atD o).intsShort 13 = true
  | none, _ => ⟨rfl, rfl, rfl, by decide, rfl⟩
  | some i, h => by
    have : i < 10 := h i rfl
    match i, this with
    | 0, _ => decide +kernel
    | 1, _ => decide +kernel
    | 2, _ => decide +kernel
    | 3, _ => decide +kernel
    | 4, _ => decide +kernel
    | 5, _ => decide +kernel
    | 6, _ => decide +kernel
    | 7, _ => decide +kernel
    | 8, _ => decide +kernel
    | 9, _ => decide +kernel
    | _ + 10, h => omega
theorem brD_ok {u : Br} (h : BrS u) : (brD u).showable = true ∧ (brD u).hasDict = false ∧ (brD u).depth ≤ 60 ∧ (brD u).shown.length ≤ sizeLine := by
  obtain ⟨a1, a2, a3, a4, a5⟩ := rw_lay u.1 h.a
  obtain ⟨b1, b2, b3, b4, b5⟩ := rw_lay u.2.1 h.b
  obtain ⟨c1, c2, c3, c4, c5⟩ := at_ok h.i
  have la := h.la
  have lb := h.lb
  have hw : (brD u).weight ≤ 2 ^ 20 := by
    have e : (brD u).weight = PyData.weightAll (u.1.map PyData.str) + 1 + (PyData.weightAll (u.2.1.map PyData.str) + 1 + ((atD u.2.2).weight + 1 + 0)) := by
      simp [brD, rwD, PyData.weight, PyData.weightAll]
    rw [e]
    omega
  have hd : (brD u).depth = 2 := by
    simp [brD, rwD, PyData.depth, PyData.depthAll, a3, b3, c3]
  have hc : (brD u).canLay0 = true := by
    simp [brD, rwD, PyData.canLay0, PyData.canLayAll0, a1, b1, c1]
  have hL : PyData.layable0 (brD u) = true := by
    unfold PyData.layable0
    rw [hc, hd, decide_eq_true hw]
    rfl
  refine ⟨?_, PyData.hasDict_of_canLay _ hc, by rw [hd]; decide, ?_⟩
  · simp [brD, rwD, PyData.showable, PyData.showableAll, a2, b2, c2]
  · refine Nat.le_trans (shown_le13 hL ?_) (by decide)
    simp [brD, rwD, PyData.intsShort, PyData.intsShortAll, a5, b5, c5]
theorem rw_dpAll {K : PySem.W.Frag} {H : Hp} : ∀ r : List Str, DpAll K H (vss r) (r.map PyData.str)
  | [] => .nil
  | x :: r => .cons (.str x) (rw_dpAll r)
theorem BrR.dp {K : PySem.W.Frag} {H : Hp} {v : V} {u : Br} (h : BrR H v (some u)) : ∃ a, v = .ref a ∧ Dp K H (.ref a) (brD u) := by
  obtain ⟨a, x, y, rfl, h, ⟨b, rfl, hx⟩, ⟨c, rfl, hy⟩⟩ := h
  refine ⟨a, rfl, .tup (SqT.of h) (.cons (.tup (SqT.of hx) (rw_dpAll _)) (.cons (.tup (SqT.of hy) (rw_dpAll _)) (.cons ?_ .nil)))⟩
  cases u.2.2 with
  | none => exact .non
  | some i => exact .int i
/-! ### the first breach -/
theorem FBr.pre {F G : Lst} {u : Br} (g : Grow F G) (h : FBr F (some u)) : FBr G (some u) := by
  obtain ⟨i, j, e, k, h1, h2, h3, h4, h5, h6, h7⟩ := h
  refine ⟨i, j, e, k, h1, h2, g.at h3, g.at h4, h5, h6, fun i' j' e' k' r q a1 a2 a3 a4 a5 => ?_⟩
  have hj := (List.getElem?_eq_some_iff.mp h4).1
  obtain ⟨t, rfl⟩ := g
  rw [List.getElem?_append_left (by omega)] at a4 a5
  exact h7 i' j' e' k' r q a1 a2 a3 a4 a5
theorem FBr.uniq {F : Lst} : ∀ {b c : Option Br}, FBr F b → FBr F c → b = c
  | none, none, _, _ => rfl
  | none, some u, h, ⟨i, j, e, k, h1, h2, h3, h4, h5, h6, h7⟩ => by
    have hj := (List.getElem?_eq_some_iff.mp h4).1
    rw [h i j e k _ _ h1 h2 (.inl hj) h3 h4] at h5
    cases h5
  | some u, none, ⟨i, j, e, k, h1, h2, h3, h4, h5, h6, h7⟩, h => by
    have hj := (List.getElem?_eq_some_iff.mp h4).1
    rw [h i j e k _ _ h1 h2 (.inl hj) h3 h4] at h5
    cases h5
  | some u, some v, ⟨i, j, e, k, h1, h2, h3, h4, h5, h6, h7⟩, ⟨i', j', e', k', a1, a2, a3, a4, a5, a6, a7⟩ => by
    have n1 : ¬ (j < j' ∨ (j = j' ∧ i < i')) := fun z => by
      rw [a7 i j e k _ _ h1 h2 z h3 h4] at h5
      cases h5
    have n2 : ¬ (j' < j ∨ (j' = j ∧ i' < i)) := fun z => by
      rw [h7 i' j' e' k' _ _ a1 a2 z a3 a4] at a5
      cases a5
    have ej : j = j' := by omega
    have ei : i = i' := by omega
    subst ej
    subst ei
    rw [h3] at a3
    rw [h4] at a4
    obtain ⟨u1, u2, u3⟩ := u
    obtain ⟨v1, v2, v3⟩ := v
    cases a3
    cases a4
    have : u3 = v3 := h6.trans a6.symm
    rw [this]
/-- closed listings agree -/
theorem bf_same {n : Nat} {ds : List (Str × Eff)} {j k : Nat} (hj : (bf n ds j).length ≤ j) (hk : (bf n ds k).length ≤ k) : bf n ds j = bf n ds k := by
  rcases Nat.le_total j k with h | h
  · have := bf_stop hj (k - j)
    rw [show j + (k - j) = k by omega] at this
    exact this.symm
  · have := bf_stop hk (j - k)
    rw [show k + (j - k) = j by omega] at this
    exact this
theorem bf_pre {n : Nat} {ds : List (Str × Eff)} {j k : Nat} (hk : (bf n ds k).length ≤ k) : Grow (bf n ds j) (bf n ds k) := by
  rcases Nat.le_total j k with h | h
  · exact growB n ds h
  · have := bf_stop hk (j - k)
    rw [show k + (j - k) = j by omega] at this
    rw [this]
    exact Grow.refl _
theorem take_grow (F : Lst) (m : Nat) : Grow (F.take m) F := ⟨F.drop m, (List.take_append_drop m F).symm⟩
/-- rows of the listing are rows of its names -/
theorem bf_names (n : Nat) (ds : List (Str × Eff)) : ∀ k, ∀ q ∈ bf n ds k, ∀ x ∈ q.2, x ∈ ds.map (·.1) :=
  allB (p := fun q => ∀ x ∈ q.2, x ∈ ds.map (·.1)) n ds (fun x h => absurd h (by simp)) fun e r d h hd x hx => by
    rcases List.mem_append.mp hx with hx | hx
    · exact h x hx
    · rw [List.mem_singleton.mp hx]
      exact List.mem_map_of_mem hd
theorem bf_ok {n : Nat} {ds : List (Str × Eff)} (h : DG n ds) : ∀ k, ∀ q ∈ bf n ds k, Ok n q.1 :=
  fun k => allB (p := fun q => Ok n q.1) n ds (ok_id n) (fun e r d h' hd => ok_thn h' (h.ok d hd)) k
end EO
end
section
set_option Elab.async false
set_option linter.all false
set_option maxRecDepth 100000
set_option maxHeartbeats 1000000
/-! told: the first breach of the machine is that of the listing -/
namespace EO
open PySem PySem.Spec PyProof.Rows L2
theorem hu64 {k : Nat} {A : Around} (hr : Room k A) : A.units + 64 < cLine := by have := hr.un; omega
def gsw {α : Type} : List α → List α
  | [a, b] => [b, a]
  | _ => []
section
variable {P : Program} {w : World} {K : PySem.W.Frag} {mg : Str → Option Value} {base : Heap} {CM CN CS : Addr}
theorem kb_hb {kV doc pm : Value} {an : Option Addr} {cdv ct : Value} : KBn K (PySem.W.fnOf "home_breach" "home_breach" (defArgs (topS 42)) (defBody (topS 42)) (defScope (topS 42)) .none kV doc pm an cdv ct) ["machine"] 0 ["machine"] (fun _ w => w) (fun _ z => z) :=
  ⟨fun s us ws X hu hw => match us, hu, ws, hw with
    | [], _, [v], _ => BindsTo.of_eq rfl, fun _ r2 => r2⟩
theorem kb_bh {kV doc pm : Value} {an : Option Addr} {cdv ct : Value} : KBn K (PySem.W.fnOf "breach_holds" "breach_holds" (defArgs (topS 44)) (defBody (topS 44)) (defScope (topS 44)) .none kV doc pm an cdv ct) ["machine", "value"] 0 ["value", "machine"] (fun _ w => gsw w) (fun _ z => gsw z) :=
  ⟨fun s us ws X hu hw => match us, hu, ws, hw with
    | [], _, [v, u], _ => BindsTo.of_eq rfl, fun _ r2 => by
      cases r2 with
      | nil => exact .nil
      | cons a r => cases r with
        | nil => exact .nil
        | cons b r => cases r with
          | nil => exact .cons b (.cons a .nil)
          | cons c r => exact .nil⟩
def allB26 (n : Nat) (ds : List (Str × Eff)) : Bool := decide ((bf n ds 26).length ≤ 26)
def listD (n : Nat) (ds : List (Str × Eff)) : Lst := if allB26 n ds then bf n ds 26 else (bf n ds 26).take 40
def spTold : Sp := fun vs H Q _ => ∃ n ds l, vs = [.ref l] ∧ LD H l ds ∧ DG n ds ∧ 1 ≤ ds.length ∧ (∀ k, (bf n ds k).length ≤ 300) ∧
  ∀ H' a q dv br xs, H' a = some (.tup [.bl true, dv, .ref q, .bl (allB26 n ds)]) → H' q = some (.lst xs) → Al (Prr H') xs (listD n ds) → BrR H' dv br → FBr (listD n ds) br → Same H H' → Q (.ref a) H'
abbrev sc__law_toldN : List Str := ["_law_deeds_here", "_law_listed_here", "_law_is_all", "_law_due"]
theorem sc__law_told : FnScope sc__law_toldN ["_law_deeds_here"] (defScope (topS 67)) := ⟨rfl, rfl, rfl, by decide +kernel, rfl, by decide +kernel, by decide +kernel⟩
theorem ok__law_told (D : Dfn K mg "_law_told" (topS 67)) (T : Txt K mg CM) (c__law_listed : Fn P w K mg base 2 "_law_listed" spListed) (c__law_first_breach : Fn P w K mg base 2 "_law_first_breach" spLFB)
    (c_home_breach : FnK P w K mg base (L2.CX P w) 3 "home_breach" (topS 42) ["machine"] (spHB CM CS)) (cM : FnM P w K mg base CM 4 (spMInit K CM)) : FnG P w K mg base 6 "_law_told" spTold := by
  obtain ⟨fH, kVH, docH, pmH, anH, cdvH, ctH, FH, mH, kpH⟩ := c_home_breach.ex
  refine fn_byG D sc__law_told (fun _ _ _ _ _ _ us hl => match us, hl with | [_], _ => rfl) (fun vs H Q E h => ?_) (fun f cdv A outer s H vs Q E hgd hr h => ?_)
  · obtain ⟨n, ds, l, rfl, _⟩ := h
    rfl
  · obtain ⟨n, ds, l, rfl, hld, hdg, hd1, h300, q⟩ := h
    refine ⟨_, (pss_cons (ps_asg (pe_f c__law_listed hr (by first | decide | omega) rfl (pa_cons (pv 0) (pa_cons pe_int pa_nil))) (pg_tup (n := 2) rfl (pgs_cons (pg_name (i := 1) sc__law_told.nd rfl (Or.inl rfl)) (pgs_cons (pg_name (i := 2) sc__law_told.nd rfl (Or.inl rfl)) pgs_nil))))
 (pss_cons (ps_if (pt_not (pt_val (pv 2)))
 (pss_one (ps_set (i := 1) sc__law_told.nd rfl (Or.inl rfl) (pe_slice sl_list (pv 1) po_none (po_some pe_int))))
 pss_nil)
 (pss_cons (ps_set (i := 3) sc__law_told.nd rfl (Or.inl rfl) (pe_f c__law_first_breach hr (by first | decide | omega) rfl (pa_cons (pv 1) pa_nil)))
 (pss_cons (ps_if (PW.pt (pw_and (pt_cmpR op_isN (pv 3) pe_non (nomark _)) (pw_and1 (pt_not (pt_val (pv 2))))))
 (pss_one (ps_ret (pe_tup (pa_cons pe_bl (pa_cons (pv 3) (pa_cons (pv 1) (pa_cons (pv 2) pa_nil)))))))
 pss_nil)
 (pss_one (ps_ret (pe_tup (pa_cons (pe_cmpR op_eq (pe_callB (cr_repr hgd (hu64 hr)) rfl T.repr PyProof.Rows.Boot.«repr» (pa_cons (pe_callN0 FH (hr.mono (by first | decide | omega)) rfl mH kpH kb_hb (passes_call LamX.takes0 (fun cls d σ H h => h)) (pk_cons (pe_mk' cM hr (by first | decide | omega) rfl (pa_cons (pv 0) pa_nil)) pk_nil)) pa_nil)) (pe_callB (cr_repr hgd (hu64 hr)) rfl T.repr PyProof.Rows.Boot.«repr» (pa_cons (pv 3) pa_nil)) (nomark _)) (pa_cons (pv 3) (pa_cons (pv 1) (pa_cons (pv 2) pa_nil))))))))))), ?_⟩
    have hn6 := hdg.hi
    refine ⟨.ref l, rfl, n, ds, l, rfl, hld, hdg, hd1, fun H1 a p xs b ha hp hal hb sm => ?_⟩
    have hb' : b = allB26 n ds := hb
    have hlen26 : (bf n ds 26).length ≤ 300 := h300 26
    obtain ⟨L, hL⟩ : ∃ L, L = listD n ds := ⟨_, rfl⟩
    have hLok : ∀ q ∈ L, Ok n q.1 := fun q hq => by
      rw [hL] at hq
      unfold listD at hq
      split at hq
      · exact bf_ok hdg 26 q hq
      · exact bf_ok hdg 26 q (List.mem_of_mem_take hq)
    rw [← hL] at q
    rw [← hb'] at q
    clear hb'
    refine ⟨a, _, rfl, SqT.of ha, rfl, _, _, rfl, _, _, rfl, rfl, ?_⟩
    have key : ∀ (D : Ends), (∀ p2 xs2 H2, Same H1 H2 → H2 p2 = some (.lst xs2) → Al (Prr H2) xs2 L → D.nx [some (.ref l), some (.ref p2), some (.bl b), none] H2) →
        tIfS (tNot (tB (tVar 2))) (tAsg (tSl (rSlL K) (tVar 1) tNoPart (tPart (tC (V.int 40)))) (gName 1)) tNext D [some (.ref l), some (.ref p), some (.bl b), none] H1 := by
      intro D k
      cases b with
      | true =>
        refine ⟨.bl true, rfl, _, rfl, ite2 (fun z => absurd z (by decide)) (fun z => k p xs H1 (Same.refl _) hp ?_)⟩
        rw [hL]
        unfold listD
        rw [if_pos (c := allB26 n ds = true) hb.symm]
        exact hal
      | false =>
        refine ⟨.bl false, rfl, _, rfl, ite2 (fun z => ?_) (fun z => absurd rfl z)⟩
        refine ⟨.ref p, rfl, 40, rfl, p, xs, rfl, SqL.of hp, fun p2 hp2 => ?_⟩
        have e40 : cutV xs none (some 40) = xs.take 40 := cutV_take xs 40
        refine k p2 _ _ (same_new hp2) (by rw [upd_same, e40]) ?_
        rw [hL]
        unfold listD
        rw [if_neg (c := allB26 n ds = true) (fun e => by have e' : false = true := hb.trans e; cases e')]
        exact (hal.take 40).mono fun _ _ h => h.kt (kt (same_new hp2))
    refine key _ (fun p2 xs2 H2 sm2 hp2 hal2 => ?_)
    have hLl : L.length ≤ 300 := by
      rw [hL]
      unfold listD
      split
      · exact hlen26
      · rw [List.length_take]; omega
    refine ⟨.ref p2, rfl, n, p2, xs2, L, rfl, hp2, hal2, hLok, by omega, by omega, fun H3 dv br hf hbr sm3 => ?_⟩
    have sm03 := (sm.trans sm2).trans sm3
    have hp23 := sm3 _ _ hp2
    have hal3 := hal2.mono fun _ _ h => h.kt (kt sm3)
    have z4 : 4 ≤ sizeLine := by decide
    have bs : ∀ u, br = some u → BrS u := fun u hu => by
      rw [hu] at hf
      obtain ⟨i, j, e, g, h1, h2, h3, h4, h5, h6, h7⟩ := hf
      have hrow : ∀ q ∈ L, (∀ x ∈ q.2, nmS x = true) ∧ q.2.length ≤ 900 := fun q hq => by
        have hq' : q ∈ bf n ds 26 := by
          rw [hL] at hq
          unfold listD at hq
          split at hq
          · exact hq
          · exact List.mem_of_mem_take hq
        refine ⟨fun x hx => ?_, Nat.le_trans (len_row n ds 26 q hq') (by decide)⟩
        obtain ⟨d, hd, rfl⟩ := List.mem_map.mp (bf_names n ds 26 q hq' x hx)
        exact hdg.nm d hd
      have r1 := hrow _ (List.mem_of_getElem? h3)
      have r2 := hrow _ (List.mem_of_getElem? h4)
      have o1 := hLok _ (List.mem_of_getElem? h3)
      have o2 := hLok _ (List.mem_of_getElem? h4)
      refine ⟨r1.1, r2.1, r1.2, r2.2, fun k hk => ?_⟩
      rw [h6] at hk
      unfold unl at hk
      have g1 := List.mem_range.mp (List.mem_of_find?_eq_some hk)
      have g2 : (thn e g).length = n := (ok_thn o1 o2).len
      have g3 : (thn g e).length = n := (ok_thn o2 o1).len
      rw [g2] at g1
      omega
    obtain ⟨xs0, hl0, hal0⟩ := hld
    have tail : (b = true ∨ ∃ u, br = some u) → tRet (tTup (tCons (tOp rEq (tCB (rRepr K) (tCons (tCallN 0 1 (spHB CM CS) (fun _ z => z) (fun _ _ _ => False) tNil (tCons (tMake CM (spMInit K CM) [] E0 (tCons (tVar 0) tNil)) tNil)) tNil)) (tCB (rRepr K) (tCons (tVar 3) tNil))) (tCons (tVar 3) (tCons (tVar 1) (tCons (tVar 2) tNil)))))
        { nx := fun _ H' => Q .non H', rt := Q } [some (.ref l), some (.ref p2), some (.bl b), some dv] H3 := by
      intro hcase
      refine ⟨.ref l, rfl, fun x dx hx hdx hne => ?_⟩
      have so := same_new (o := HO.own x) hdx
      have sx := same_new (o := HO.ins CM dx []) (H := upd H3 dx (.own x)) (by rw [upd_ne (Ne.symm hne)]; exact hx)
      have smM := so.trans sx
      refine ⟨x, dx, l, xs0, ds, n, rfl, upd_same, SqL.of (smM _ _ (sm03 _ _ hl0)), smM _ _ (sm03 _ _ hl0), hal0.mono fun _ _ h => h.kt (kt (sm03.trans smM)), hdg, hd1, fun H5 hk5 hmc => ⟨rfl, rfl, rfl, n, ds, .ref x, rfl, hmc, hdg, fun H6 v N b2 hN hN3 hf2 hbr2 sm6 => ?_, fun ⟨k, hk⟩ => absurd hk (Nat.not_lt.mpr (h300 k))⟩⟩
      have sm35 : Same H3 H5 := fun c o hc => hk5 c o (ne_of_none hc hx) (smM _ _ hc)
      have sm36 := sm35.trans sm6
      have hN' : (bf n ds N).length ≤ N := Nat.le_of_eq hN
      have hbr3 := hbr.kt (kt sm36)
      have eb : br = b2 := by
        rcases hcase with hc | ⟨u, hu⟩
        · have h26 : (bf n ds 26).length ≤ 26 := by
            have e' : allB26 n ds = true := hb.symm.trans hc
            exact of_decide_eq_true e'
          have e1 := bf_same h26 hN'
          have e2 : L = bf n ds N := by
            rw [hL]
            unfold listD
            rw [if_pos (c := allB26 n ds = true) (hb.symm.trans hc)]
            exact e1
          rw [e2] at hf
          exact hf.uniq hf2
        · rw [hu] at hf ⊢
          have g : Grow L (bf n ds N) := by
            rw [hL]
            unfold listD
            split
            · exact bf_pre hN'
            · exact (take_grow _ _).trans (bf_pre hN')
          exact (hf.pre g).uniq hf2
      rw [← eb] at hbr2
      have done : ∀ z : Str, ∀ qa, H6 qa = none → Q (.ref qa) (upd H6 qa (.tup [.bl (decide (V.str z = V.str z)), dv, .ref p2, .bl b])) := fun z qa hqa => by
        have smq := same_new (o := HO.tup [.bl (decide (V.str z = V.str z)), dv, .ref p2, .bl b]) hqa
        refine q _ qa p2 dv br xs2 ?_ (smq _ _ (sm36 _ _ hp23)) (hal3.mono fun _ _ h => h.kt (kt (sm36.trans smq))) (hbr3.kt (kt smq)) hf (sm03.trans (sm36.trans smq))
        rw [upd_same, decide_eq_true (rfl : V.str z = V.str z)]
      cases br with
      | none =>
        cases hbr2
        cases hbr3
        exact .inl ⟨rfl, .non, rfl, .inl ⟨rfl, rfl, .non, rfl, .ref p2, rfl, .bl b, rfl, z4, fun qa hqa => done _ qa hqa⟩⟩
      | some u =>
        obtain ⟨s1, s2, s3, s4⟩ := brD_ok (bs u rfl)
        obtain ⟨a1, rfl, d1⟩ := hbr2.dp (K := K)
        obtain ⟨a2, rfl, d2⟩ := hbr3.dp (K := K)
        exact .inr (.inr ⟨a1, brD u, rfl, d1, s1, s2, s3, s4, .ref a2, rfl, .inr (.inr ⟨a2, brD u, rfl, d2, s1, s2, s3, s4, rfl, .ref a2, rfl, .ref p2, rfl, .bl b, rfl, z4, fun qa hqa => done _ qa hqa⟩)⟩)
    cases br with
    | none =>
      cases hbr
      refine ⟨.non, rfl, rfl, _, rfl, ite2 (fun z1 => ⟨.bl b, rfl, _, rfl, ite2 (fun z2 => ?_) (fun z2 => tail (.inl (by cases b; exact absurd rfl z2; rfl)))⟩) (fun z1 => absurd rfl z1)⟩
      refine ⟨.non, rfl, .ref p2, rfl, .bl b, rfl, z4, fun qa hqa => ?_⟩
      have smq := same_new (o := HO.tup [.bl true, .non, .ref p2, .bl b]) hqa
      exact q _ qa p2 .non none xs2 upd_same (smq _ _ hp23) (hal3.mono fun _ _ h => h.kt (kt smq)) rfl hf (sm03.trans smq)
    | some u =>
      obtain ⟨a2, a3, a4, rfl, _⟩ := hbr
      exact ⟨.ref a2, rfl, rfl, _, rfl, ite2 (fun z1 => absurd z1 (by simp)) (fun z1 => tail (.inr ⟨u, rfl⟩))⟩
end
end EO
end
section
set_option Elab.async false
set_option linter.all false
set_option maxRecDepth 100000
set_option maxHeartbeats 1000000
/-! how long listings are -/
namespace EO
open PySem
/-! effects alone -/
def fex (e : Eff) (G : List Eff) (t : Eff) : List Eff := if thn e t ∈ G then G else G ++ [thn e t]
def fbs (es : List Eff) (k : Nat) (G : List Eff) : List Eff :=
  match G[k]? with
  | some e => es.foldl (fex e) G
  | none => G
def fbf (n : Nat) (es : List Eff) : Nat → List Eff
  | 0 => [idE n]
  | k + 1 => fbs es k (fbf n es k)
theorem fsts_expd (e : Eff) (r : List Str) : ∀ (ds : List (Str × Eff)) (F : Lst), fsts (expd ds e r F) = (ds.map (·.2)).foldl (fex e) (fsts F)
  | [], F => rfl
  | d :: ds, F => by
    show fsts (expd ds e r (exp1 e r F d)) = _
    rw [fsts_expd e r ds]
    show _ = (ds.map (·.2)).foldl (fex e) (fex e (fsts F) d.2)
    congr 1
    unfold exp1 fex
    split
    · rfl
    · exact List.map_append
theorem fsts_bf (n : Nat) (ds : List (Str × Eff)) : ∀ k, fsts (bf n ds k) = fbf n (ds.map (·.2)) k
  | 0 => rfl
  | k + 1 => by
    have ih := fsts_bf n ds k
    show fsts (bfs ds k (bf n ds k)) = fbs _ k (fbf n _ k)
    rw [← ih]
    unfold bfs fbs
    have e : (fsts (bf n ds k))[k]? = ((bf n ds k)[k]?).map (·.1) := List.getElem?_map ..
    rw [e]
    cases h : (bf n ds k)[k]? with
    | none => rfl
    | some q => exact fsts_expd q.1 q.2 ds _
theorem len_fsts (F : Lst) : (fsts F).length = F.length := List.length_map _
/-! few: at most five states -/
def CC (n : Nat) (e : Eff) : Prop := Ok n e ∧ (n = 5 → Surj 5 e ∨ Cst 5 e)
theorem cc_id (n : Nat) : CC n (idE n) := ⟨ok_id n, fun _ => .inl fun y hy => ⟨y, hy, by
  show ap (idE n) y = y
  exact ap_id (by omega)⟩⟩
theorem cc_thn {n : Nat} {e g : Eff} (a : CC n e) (b : CC n g) : CC n (thn e g) := by
  refine ⟨ok_thn a.1 b.1, fun h => ?_⟩
  subst h
  rcases b.2 rfl with b2 | ⟨c, hc, b2⟩
  · rcases a.2 rfl with a2 | ⟨c, hc, a2⟩
    · refine .inl fun y hy => ?_
      obtain ⟨z, hz, e1⟩ := b2 y hy
      obtain ⟨x, hx, e2⟩ := a2 z hz
      exact ⟨x, hx, by rw [ap_thn a.1 hx, e2, e1]⟩
    · exact .inr ⟨ap g c, b.1.ap_lt hc, fun x hx => by rw [ap_thn a.1 hx, a2 x hx]⟩
  · exact .inr ⟨c, hc, fun x hx => by rw [ap_thn a.1 hx, b2 _ (a.1.ap_lt hx)]⟩
def t5 (e : Eff) : Bool := ((List.range 5).all fun y => e.any fun z => Nat.beq z y) || e.all fun z => Nat.beq z (ap e 0)
theorem t5_of {e : Eff} (o : Ok 5 e) (h : Surj 5 e ∨ Cst 5 e) : t5 e = true := by
  unfold t5
  rw [Bool.or_eq_true]
  rcases h with h | ⟨c, hc, h⟩
  · left
    rw [List.all_eq_true]
    intro y hy
    rw [List.any_eq_true]
    obtain ⟨x, hx, e1⟩ := h y (List.mem_range.mp hy)
    have h' : x < e.length := by rw [o.len]; exact hx
    exact ⟨ap e x, List.mem_of_getElem? (ap_get h'), by rw [e1]; exact Nat.beq_refl y⟩
  · right
    rw [List.all_eq_true]
    intro z hz
    obtain ⟨i, hi, e1⟩ := List.mem_iff_getElem.mp hz
    have e2 := ap_get hi
    rw [List.getElem?_eq_getElem hi, e1] at e2
    have e3 := Option.some.inj e2
    rw [e3, h i (by rw [← o.len]; exact hi), h 0 (by decide)]
    exact Nat.beq_refl c
theorem five_len : ((tups 5 5).filter t5).length = 125 := by decide +kernel
theorem cc_few {n : Nat} (h2 : 2 ≤ n) (h5 : n ≤ 5) {l : List Eff} (nd : l.Nodup) (h : ∀ e ∈ l, CC n e) : l.length ≤ 256 := by
  by_cases hn : n = 5
  · subst hn
    have := len_le_of_sub (l' := (tups 5 5).filter t5) nd fun e he => List.mem_filter.mpr ⟨(h e he).1.mem, t5_of (h e he).1 ((h e he).2 rfl)⟩
    rw [five_len] at this
    omega
  · have sub : ∀ e ∈ l, e ∈ tups n n := fun e he => (h e he).1.mem
    have := len_le_of_sub nd sub
    have hl : (tups n n).length ≤ 256 := by
      rcases (by omega : n = 2 ∨ n = 3 ∨ n = 4) with rfl | rfl | rfl
      · decide +kernel
      · decide +kernel
      · decide +kernel
    omega
theorem bf_few {n : Nat} {ds : List (Str × Eff)} (h2 : 2 ≤ n) (h5 : n ≤ 5) (h : ∀ d ∈ ds, CC n d.2) (k : Nat) : (bf n ds k).length ≤ 300 := by
  rw [← len_fsts]
  have := cc_few h2 h5 (ndB n ds k) fun e he => by
    obtain ⟨q, hq, rfl⟩ := List.mem_map.mp he
    exact allB (p := fun q => CC n q.1) n ds (cc_id n) (fun e r d a hd => cc_thn a (h d hd)) k q hq
  omega
/-! two images exchanged -/
def swp (e : Eff) (i j : Nat) : Eff := (e.set i (ap e j)).set j (ap e i)
theorem swp_ap {n : Nat} {e : Eff} (o : Ok n e) {i j x : Nat} (hi : i < n) (hj : j < n) (hx : x < n) : ap (swp e i j) x = if x = j then ap e i else if x = i then ap e j else ap e x := by
  have l1 : (swp e i j).length = n := by simp [swp, o.len]
  have hx' : x < (swp e i j).length := by rw [l1]; exact hx
  have e1 := ap_get hx'
  have e2 : (swp e i j)[x]? = some (if x = j then ap e i else if x = i then ap e j else ap e x) := by
    unfold swp
    have h3 : x < e.length := by rw [o.len]; exact hx
    rw [List.getElem?_set]
    by_cases a : j = x
    · subst a
      rw [if_pos rfl, if_pos rfl, if_pos (by simp [o.len]; exact hj)]
    · rw [if_neg a, if_neg (Ne.symm a), List.getElem?_set]
      by_cases b : i = x
      · subst b
        rw [if_pos rfl, if_pos rfl, if_pos (by rw [o.len]; exact hi)]
      · rw [if_neg b, if_neg (Ne.symm b)]
        exact ap_get h3
  rw [e1] at e2
  exact Option.some.inj e2
theorem cc_swp {n : Nat} {e : Eff} (a : CC n e) {i j : Nat} (hi : i < n) (hj : j < n) : CC n (swp e i j) := by
  have o := a.1
  have ok : Ok n (swp e i j) := by
    refine ⟨by simp [swp, o.len], fun x hx => ?_⟩
    unfold swp at hx
    rcases List.mem_or_eq_of_mem_set hx with hx | rfl
    · rcases List.mem_or_eq_of_mem_set hx with hx | rfl
      · exact o.lt x hx
      · exact o.ap_lt hj
    · exact o.ap_lt hi
  refine ⟨ok, fun h => ?_⟩
  subst h
  rcases a.2 rfl with h | ⟨c, hc, h⟩
  · refine .inl fun y hy => ?_
    obtain ⟨x, hx, e1⟩ := h y hy
    by_cases h1 : x = i
    · subst h1
      exact ⟨j, hj, by rw [swp_ap o hi hj hj, if_pos rfl, e1]⟩
    · by_cases h2 : x = j
      · subst h2
        refine ⟨i, hi, ?_⟩
        rw [swp_ap o hi hj hi]
        by_cases h3 : i = x
        · exact absurd h3.symm h1
        · rw [if_neg h3, if_pos rfl, e1]
      · exact ⟨x, hx, by rw [swp_ap o hi hj hx, if_neg h2, if_neg h1, e1]⟩
  · refine .inr ⟨c, hc, fun x hx => ?_⟩
    rw [swp_ap o hi hj hx]
    split
    · exact h i hi
    · split
      · exact h j hj
      · exact h x hx
/-! many: the great ones -/
def cjg (p e : Eff) : Eff := (List.range 6).map fun s => ap p (ap e (p.idxOf s))
theorem cjg_len (p e : Eff) : (cjg p e).length = 6 := by simp [cjg]
theorem cjg_ap (p e : Eff) {s : Nat} (h : s < 6) : ap (cjg p e) s = ap p (ap e (p.idxOf s)) := by
  have h' : s < (cjg p e).length := by rw [cjg_len]; exact h
  have e1 := ap_get h'
  have e2 : (cjg p e)[s]? = some (ap p (ap e (p.idxOf s))) := by
    unfold cjg
    rw [List.getElem?_map, List.getElem?_range h]
    rfl
  rw [e1] at e2
  exact Option.some.inj e2
section
variable {p : List Nat}
theorem nm_idx (N : Nm 6 p) {i : Nat} (h : i < 6) : p.idxOf (ap p i) = i := by
  have hi : i < p.length := by rw [N.len]; exact h
  have e : ap p i = p[i] := by
    have := ap_get hi
    rw [List.getElem?_eq_getElem hi] at this
    exact (Option.some.inj this).symm
  rw [e]
  exact N.nd.idxOf_getElem i hi
theorem nm_at (N : Nm 6 p) {s : Nat} (h : s < 6) : p.idxOf s < 6 ∧ ap p (p.idxOf s) = s := by
  have hm : s ∈ p := (N.mem s).mpr h
  have hl : p.idxOf s < p.length := List.idxOf_lt_length_iff.mpr hm
  refine ⟨by rw [← N.len]; exact hl, ?_⟩
  have e1 := ap_get hl
  rw [List.getElem?_eq_getElem hl, List.getElem_idxOf hl] at e1
  exact (Option.some.inj e1).symm
theorem cjg_ok (N : Nm 6 p) {e : Eff} (o : Ok 6 e) : Ok 6 (cjg p e) := by
  refine ⟨cjg_len p e, fun x hx => ?_⟩
  obtain ⟨s, hs, rfl⟩ := List.mem_map.mp hx
  exact N.ok.ap_lt (o.ap_lt (nm_at N (List.mem_range.mp hs)).1)
theorem cjg_thn (N : Nm 6 p) {e g : Eff} (o : Ok 6 e) (q : Ok 6 g) : cjg p (thn e g) = thn (cjg p e) (cjg p g) := by
  refine (cjg_ok N (ok_thn o q)).ext (ok_thn (cjg_ok N o) (cjg_ok N q)) fun s hs => ?_
  have hi := nm_at N hs
  rw [cjg_ap _ _ hs, ap_thn (cjg_ok N o) hs, cjg_ap _ e hs, cjg_ap _ g (N.ok.ap_lt (o.ap_lt hi.1)), nm_idx N (o.ap_lt hi.1), ap_thn o hi.1]
theorem cjg_id (N : Nm 6 p) : cjg p (idE 6) = idE 6 := by
  refine (cjg_ok N (ok_id 6)).ext (ok_id 6) fun s hs => ?_
  have hi := nm_at N hs
  rw [cjg_ap _ _ hs, ap_id hi.1, hi.2, ap_id hs]
theorem cjg_inj (N : Nm 6 p) {e g : Eff} (o : Ok 6 e) (q : Ok 6 g) (h : cjg p e = cjg p g) : e = g := by
  refine o.ext q fun i hi => ?_
  have hs := N.ok.ap_lt hi
  have := congrArg (fun z => ap z (ap p i)) h
  simp only [cjg_ap _ _ hs, nm_idx N hi] at this
  have h1 := nm_idx N (o.ap_lt hi)
  rw [this, nm_idx N (q.ap_lt hi)] at h1
  exact h1.symm
theorem fex_cjg (N : Nm 6 p) {e : Eff} (o : Ok 6 e) : ∀ (es G : List Eff), (∀ t ∈ es, Ok 6 t) → (∀ t ∈ G, Ok 6 t) →
    (es.map (cjg p)).foldl (fex (cjg p e)) (G.map (cjg p)) = (es.foldl (fex e) G).map (cjg p) ∧ ∀ t ∈ es.foldl (fex e) G, Ok 6 t
  | [], G, _, hG => ⟨rfl, hG⟩
  | t :: es, G, he, hG => by
    have ot := he t (List.mem_cons_self ..)
    have oet := ok_thn o ot
    have h1 : fex (cjg p e) (G.map (cjg p)) (cjg p t) = (fex e G t).map (cjg p) := by
      unfold fex
      rw [← cjg_thn N o ot]
      by_cases hm : thn e t ∈ G
      · rw [if_pos hm, if_pos (List.mem_map_of_mem hm)]
      · rw [if_neg hm, if_neg, List.map_append]
        · rfl
        · intro hc
          obtain ⟨u, hu, e1⟩ := List.mem_map.mp hc
          have := cjg_inj N (hG u hu) oet e1
          rw [this] at hu
          exact hm hu
    have h2 : ∀ u ∈ fex e G t, Ok 6 u := fun u hu => by
      unfold fex at hu
      split at hu
      · exact hG u hu
      · rcases List.mem_append.mp hu with hu | hu
        · exact hG u hu
        · rw [List.mem_singleton.mp hu]; exact oet
    obtain ⟨a, b⟩ := fex_cjg N o es (fex e G t) (fun u hu => he u (List.mem_cons_of_mem _ hu)) h2
    refine ⟨?_, b⟩
    show (es.map (cjg p)).foldl (fex (cjg p e)) (fex (cjg p e) (G.map (cjg p)) (cjg p t)) = _
    rw [h1, a]
    rfl
theorem fbf_cjg (N : Nm 6 p) {es : List Eff} (he : ∀ t ∈ es, Ok 6 t) : ∀ k, fbf 6 (es.map (cjg p)) k = (fbf 6 es k).map (cjg p) ∧ ∀ t ∈ fbf 6 es k, Ok 6 t
  | 0 => ⟨by show [idE 6] = [cjg p (idE 6)]; rw [cjg_id N], fun t ht => by rw [List.mem_singleton.mp ht]; exact ok_id 6⟩
  | k + 1 => by
    obtain ⟨a, b⟩ := fbf_cjg N he k
    show fbs _ k (fbf 6 _ k) = (fbs _ k (fbf 6 es k)).map (cjg p) ∧ _
    rw [a]
    show fbs _ k _ = _ ∧ ∀ t ∈ fbs es k (fbf 6 es k), Ok 6 t
    unfold fbs
    rw [List.getElem?_map]
    cases h : (fbf 6 es k)[k]? with
    | none => exact ⟨rfl, b⟩
    | some e => exact fex_cjg N (b e (List.mem_of_getElem? h)) es _ he b
end
def gA : List Eff := [[1, 2, 3, 4, 5, 0], [1, 0, 2, 3, 4, 5]]
def gB : List Eff := [[1, 2, 3, 4, 0, 5], [0, 1, 2, 4, 5, 3]]
theorem great_A : 300 < (fbf 6 gA 230).length := by decide +kernel
theorem great_A' : 300 < (fbf 6 gA.reverse 230).length := by decide +kernel
theorem great_B : 300 < (fbf 6 gB 230).length := by decide +kernel
theorem great_B' : 300 < (fbf 6 gB.reverse 230).length := by decide +kernel
theorem gA_ok : ∀ t ∈ gA, Ok 6 t := fun t ht => by
  rcases List.mem_cons.mp ht with rfl | ht
  · exact ⟨rfl, by decide⟩
  · rw [List.mem_singleton.mp ht]; exact ⟨rfl, by decide⟩
theorem gB_ok : ∀ t ∈ gB, Ok 6 t := fun t ht => by
  rcases List.mem_cons.mp ht with rfl | ht
  · exact ⟨rfl, by decide⟩
  · rw [List.mem_singleton.mp ht]; exact ⟨rfl, by decide⟩
theorem great_bf {p : List Nat} (N : Nm 6 p) {g : List Eff} (hg : g = gA ∨ g = gB) {ds : List (Str × Eff)} (h : (ds.map (·.2)).Perm (g.map (cjg p))) : ∃ k, 300 < (bf 6 ds k).length := by
  refine ⟨230, ?_⟩
  rw [← len_fsts, fsts_bf]
  have two : ∀ (x y : Eff) (l : List Eff), l.Perm [x, y] → l = [x, y] ∨ l = [y, x] := fun x y l hp => by
    match l, hp.length_eq with
    | [a, b], _ =>
      have ha : a ∈ [x, y] := hp.mem_iff.mp (List.mem_cons_self ..)
      rcases List.mem_cons.mp ha with rfl | ha
      · left
        have := List.perm_singleton.mp (List.Perm.cons_inv hp)
        rw [this]
      · right
        have e := List.mem_singleton.mp ha
        subst e
        have := List.perm_singleton.mp (List.Perm.cons_inv (hp.trans (List.Perm.swap ..)))
        rw [this]
  rcases hg with rfl | rfl
  · rcases two _ _ _ h with e | e
    · rw [e, show [cjg p [1, 2, 3, 4, 5, 0], cjg p [1, 0, 2, 3, 4, 5]] = gA.map (cjg p) from rfl, (fbf_cjg N gA_ok 230).1, List.length_map]
      exact great_A
    · rw [e, show [cjg p [1, 0, 2, 3, 4, 5], cjg p [1, 2, 3, 4, 5, 0]] = gA.reverse.map (cjg p) from rfl, (fbf_cjg N (fun t ht => gA_ok t (List.mem_reverse.mp ht)) 230).1, List.length_map]
      exact great_A'
  · rcases two _ _ _ h with e | e
    · rw [e, show [cjg p [1, 2, 3, 4, 0, 5], cjg p [0, 1, 2, 4, 5, 3]] = gB.map (cjg p) from rfl, (fbf_cjg N gB_ok 230).1, List.length_map]
      exact great_B
    · rw [e, show [cjg p [0, 1, 2, 4, 5, 3], cjg p [1, 2, 3, 4, 0, 5]] = gB.reverse.map (cjg p) from rfl, (fbf_cjg N (fun t ht => gB_ok t (List.mem_reverse.mp ht)) 230).1, List.length_map]
      exact great_B'
end EO
end
section
set_option Elab.async false
set_option linter.all false
set_option maxRecDepth 100000
set_option maxHeartbeats 1000000
/-! what a breach of the listing is; unbreakable listings -/
namespace EO
open PySem
theorem nd_lookup : ∀ {ds : List (Str × Eff)}, (ds.map (·.1)).Nodup → ∀ d ∈ ds, ds.lookup d.1 = some d.2
  | [], _, d, h => absurd h (by simp)
  | p :: r, nd, d, h => by
    rw [List.map_cons] at nd
    obtain ⟨n1, n2⟩ := List.nodup_cons.mp nd
    rw [List.lookup_cons]
    rcases List.mem_cons.mp h with rfl | h
    · simp
    · have ne : ¬ (d.1 = p.1) := fun e => n1 (by rw [← e]; exact List.mem_map_of_mem h)
      have : (d.1 == p.1) = false := by simp [ne]
      rw [this]
      exact nd_lookup n2 d h
theorem nE_snoc (n : Nat) (ds : List (Str × Eff)) (r : List Str) (x : Str) : nE n ds (r ++ [x]) = thn (nE n ds r) (nmE ds x) := by
  unfold nE
  rw [List.foldl_append]
  rfl
section
variable {n : Nat} {ds : List (Str × Eff)}
theorem bf_nE (g : DG n ds) : ∀ k, ∀ q ∈ bf n ds k, nE n ds q.2 = q.1 :=
  allB (p := fun q => nE n ds q.2 = q.1) n ds rfl fun e r d h hd => by
    show nE n ds (r ++ [d.1]) = thn e d.2
    rw [nE_snoc, show nE n ds r = e from h]
    unfold nmE
    rw [nd_lookup g.nd d hd]
    rfl
theorem knc_bf (g : DG n ds) {k : Nat} {q : Eff × List Str} (h : q ∈ bf n ds k) : knc n ds (.row (q.2.map Pt.nm)) = some q.1 := by
  have h1 : ((q.2.map Pt.nm).all fun p => !isOd p) = true := by
    rw [List.all_map, List.all_eq_true]
    exact fun _ _ => rfl
  show (if ((q.2.map Pt.nm).all fun p => !isOd p) = true then kne n ds (q.2.map Pt.nm) else none) = some q.1
  rw [if_pos h1]
  unfold kne
  rw [strange_known (bf_names n ds k q h), if_pos rfl, rowE_nm, bf_nE g k q h]
theorem bf_head {k i : Nat} {q : Eff × List Str} (h : (bf n ds k)[i]? = some q) (hi : 1 ≤ i) : q.1 ≠ idE n := fun e => by
  have h0 := bf_pos n ds k
  have nd := ndB n ds k
  have a : (fsts (bf n ds k))[i]? = some (idE n) := by
    unfold fsts
    rw [List.getElem?_map, h, ← e]
    rfl
  have b : (fsts (bf n ds k))[0]? = some (idE n) := by
    unfold fsts
    rw [List.getElem?_map, h0]
    rfl
  have hl := (List.getElem?_eq_some_iff.mp a).1
  have := (List.getElem?_inj hl nd).mp (a.trans b.symm)
  omega
def ztO : Option Nat → Zt
  | none => .non
  | some i => .int (i : Int)
theorem due_holds (g : DG n ds) {L : Lst} {k : Nat} (gr : Grow L (bf n ds k)) {u : Br} (h : FBr L (some u)) : isBr n ds (.row (u.1.map Pt.nm)) (.row (u.2.1.map Pt.nm)) (ztO u.2.2) = true := by
  obtain ⟨i, j, e, f, h1, h2, h3, h4, h5, h6, _⟩ := h
  have a3 := gr.at h3
  have a4 := gr.at h4
  have o1 := bf_ok g k _ (List.mem_of_getElem? a3)
  have o2 := bf_ok g k _ (List.mem_of_getElem? a4)
  have n1 := bf_head a3 h1
  have n2 := bf_head a4 (by omega)
  have k1 := knc_bf g (List.mem_of_getElem? a3)
  have k2 := knc_bf g (List.mem_of_getElem? a4)
  unfold isBr
  rw [show knc n ds (.row (u.1.map Pt.nm)) = some e from k1, show knc n ds (.row (u.2.1.map Pt.nm)) = some f from k2]
  show jud n e f (ztO u.2.2) = true
  have n1' : ¬ e = idE n := n1
  have n2' : ¬ f = idE n := n2
  have o12 := ok_thn o1 o2
  have o21 := ok_thn o2 o1
  unfold brk at h5
  unfold jud
  rw [decide_eq_false n1', decide_eq_false n2']
  rw [h6]
  cases hu : unl (thn e f) (thn f e) with
  | none =>
    have he : thn e f = thn f e := (unl_none o12 o21).mp hu
    rw [decide_eq_true he] at h5
    have : decide (stl e = stl f) = false := by
      cases hs : decide (stl e = stl f) with
      | false => rfl
      | true => rw [hs] at h5; exact absurd h5 (by decide)
    show (!false && (!false && (decide (thn e f = thn f e) && !decide (stl e = stl f)))) = true
    rw [decide_eq_true he, this]
    rfl
  | some x =>
    have hne : ¬ thn e f = thn f e := fun q => by
      rw [(unl_none o12 o21).mpr q] at hu
      cases hu
    rw [decide_eq_false hne] at h5
    have hs : decide (stl e = stl f) = true := by
      cases hs : decide (stl e = stl f) with
      | true => rfl
      | false => rw [hs] at h5; exact absurd h5 (by decide)
    have hf := hu
    unfold unl at hf
    have hx := List.mem_range.mp (List.mem_of_find?_eq_some hf)
    rw [o12.len] at hx
    have hd := List.find?_some hf
    have hd' : ap (thn f e) x ≠ ap (thn e f) x := of_decide_eq_true hd
    show (!false && (!false && (decide (stl e = stl f) && (decide ((0 : Int) ≤ (x : Int)) && (decide ((x : Int) < (n : Int)) && !decide (ap (thn e f) (x : Int).toNat = ap (thn f e) (x : Int).toNat)))))) = true
    rw [hs, decide_eq_true (Int.natCast_nonneg x), decide_eq_true (Int.ofNat_lt.mpr hx), Int.toNat_natCast, decide_eq_false (fun q => hd' q.symm)]
    rfl
/-! unbreakable -/
theorem hasB26 (h : allB26 n ds = true) : (bf n ds 26).length ≤ 26 := of_decide_eq_true h
theorem mon_of (g : DG n ds) (h : allB26 n ds = true) (hj : ∀ x y, y < x → x < n → Joins n ds x y) : Mon n fun e => e ∈ fsts (bf n ds 26) := by
  have h26 := hasB26 h
  have cl := bf_closed h26
  have at' : ∀ {e : Eff}, e ∈ fsts (bf n ds 26) → ∃ q, q ∈ bf n ds 26 ∧ q.1 = e := fun {e} he => by
    obtain ⟨q, hq, e1⟩ := List.mem_map.mp he
    exact ⟨q, hq, e1⟩
  have okS : ∀ e, e ∈ fsts (bf n ds 26) → Ok n e := fun e he => by
    obtain ⟨q, hq, rfl⟩ := at' he
    exact bf_ok g 26 q hq
  have one : idE n ∈ fsts (bf n ds 26) := by
    have := bf_pos n ds 26
    exact List.mem_map.mpr ⟨_, List.mem_of_getElem? this, rfl⟩
  have gen : ∀ d ∈ ds, d.2 ∈ fsts (bf n ds 26) := fun d hd => by
    have := cl _ one d hd
    rw [id_thn (g.ok d hd)] at this
    exact this
  refine ⟨okS, one, fun e f he hf => ?_, fun R r s t c ⟨x, y, hx, hy, hne, hR⟩ a b ha hb => ?_⟩
  · obtain ⟨q, hq, rfl⟩ := at' hf
    have key := allB (p := fun q => Ok n q.1 ∧ ∀ e ∈ fsts (bf n ds 26), thn e q.1 ∈ fsts (bf n ds 26)) n ds ⟨ok_id n, fun e he => by rw [thn_id (okS e he)]; exact he⟩
      (fun e' r d ⟨o, a⟩ hd => ⟨ok_thn o (g.ok d hd), fun e he => by
        show thn e (thn e' d.2) ∈ _
        rw [← thn_assoc (okS e he) o (g.ok d hd)]
        exact cl _ (a e he) d hd⟩) 26 q hq
    exact key.2 e he
  · have C : Cong n ds R := ⟨r, s, t, fun d hd a b ha hb hab => c _ (gen d hd) a b ha hb hab⟩
    rcases Nat.lt_or_gt_of_ne hne with hlt | hlt
    · exact hj y x hlt hy R C (s _ _ hR) a b ha hb
    · exact hj x y hlt hx R C hR a b ha hb
theorem stl_iff {e f : Eff} (o1 : Ok n e) (o2 : Ok n f) : stl e = stl f ↔ ∀ x, x < n → (ap e x = x ↔ ap f x = x) := by
  have mem : ∀ {g : Eff}, Ok n g → ∀ x, x ∈ stl g ↔ x < n ∧ ap g x = x := fun {g} o x => by
    unfold stl
    rw [List.mem_filter, List.mem_range, o.len, decide_eq_true_eq]
  constructor
  · intro h x hx
    have a := mem o1 x
    rw [h, mem o2 x] at a
    constructor
    · intro e1; exact (a.mpr ⟨hx, e1⟩).2
    · intro e1; exact (a.mp ⟨hx, e1⟩).2
  · intro h
    unfold stl
    rw [o1.len, o2.len]
    refine List.filter_congr fun x hx => ?_
    have hx' := List.mem_range.mp hx
    by_cases q : ap e x = x
    · rw [decide_eq_true q, decide_eq_true ((h x hx').mp q)]
    · rw [decide_eq_false q, decide_eq_false (fun z => q ((h x hx').mpr z))]
theorem brk_false {e f : Eff} (o1 : Ok n e) (o2 : Ok n f) : brk e f = false ↔ (thn e f = thn f e ↔ ∀ x, x < n → (ap e x = x ↔ ap f x = x)) := by
  rw [← stl_iff o1 o2]
  unfold brk
  by_cases a : thn e f = thn f e
  · by_cases b : stl e = stl f
    · simp [a, b]
    · simp [a, b]
  · by_cases b : stl e = stl f
    · simp [a, b]
    · simp [a, b]
theorem brk_symm (e f : Eff) : brk e f = brk f e := by
  unfold brk
  rw [show (decide (thn e f = thn f e)) = decide (thn f e = thn e f) from by rw [Bool.eq_iff_iff]; simp only [decide_eq_true_eq]; exact ⟨Eq.symm, Eq.symm⟩,
    show (decide (stl e = stl f)) = decide (stl f = stl e) from by rw [Bool.eq_iff_iff]; simp only [decide_eq_true_eq]; exact ⟨Eq.symm, Eq.symm⟩]
theorem nob_iff (g : DG n ds) {k : Nat} : FBr (bf n ds k) none ↔ NoB n fun e => e ∈ fsts (bf n ds k) := by
  have ok' : ∀ {i : Nat} {q : Eff × List Str}, (bf n ds k)[i]? = some q → Ok n q.1 := fun h => bf_ok g k _ (List.mem_of_getElem? h)
  constructor
  · intro h e f he hf ne nf
    obtain ⟨⟨e', r⟩, hq, rfl⟩ := List.mem_map.mp he
    obtain ⟨⟨f', r2⟩, hq2, rfl⟩ := List.mem_map.mp hf
    obtain ⟨i, hi⟩ := List.getElem?_of_mem hq
    obtain ⟨j, hj⟩ := List.getElem?_of_mem hq2
    have hjl := (List.getElem?_eq_some_iff.mp hj).1
    have hil := (List.getElem?_eq_some_iff.mp hi).1
    have i1 : 1 ≤ i := by
      rcases Nat.eq_zero_or_pos i with z | z
      · subst z
        rw [bf_pos] at hi
        cases hi
        exact absurd rfl ne
      · exact z
    have j1 : 1 ≤ j := by
      rcases Nat.eq_zero_or_pos j with z | z
      · subst z
        rw [bf_pos] at hj
        cases hj
        exact absurd rfl nf
      · exact z
    rcases Nat.lt_trichotomy i j with hlt | heq | hlt
    · exact (brk_false (ok' hi) (ok' hj)).mp (h i j _ _ _ _ i1 hlt (.inl hjl) hi hj)
    · subst heq
      rw [hi] at hj
      cases hj
      exact ⟨fun _ _ _ => Iff.rfl, fun _ => rfl⟩
    · have := h j i _ _ _ _ j1 hlt (.inl hil) hj hi
      rw [brk_symm] at this
      exact (brk_false (ok' hi) (ok' hj)).mp this
  · intro h i j e f r q h1 h2 _ h4 h5
    exact (brk_false (ok' h4) (ok' h5)).mpr (h e f (List.mem_map.mpr ⟨_, List.mem_of_getElem? h4, rfl⟩) (List.mem_map.mpr ⟨_, List.mem_of_getElem? h5, rfl⟩) (bf_head h4 h1) (bf_head h5 (by omega)))
theorem honP_iff {e f : Eff} (o1 : Ok n e) (o2 : Ok n f) : honP e f ↔ ((∃ x, x < n ∧ ap f (ap e x) = ap e (ap f x)) → thn e f = thn f e) := by
  have o12 := ok_thn o1 o2
  have o21 := ok_thn o2 o1
  unfold honP sams
  rw [o12.len]
  constructor
  · rintro h ⟨x, hx, hxe⟩
    have hm : x ∈ (List.range n).filter fun i => decide (ap (thn f e) i = ap (thn e f) i) := by
      rw [List.mem_filter, List.mem_range, decide_eq_true_eq, ap_thn o2 hx, ap_thn o1 hx]
      exact ⟨hx, hxe.symm⟩
    rcases h with h | h
    · rw [List.length_eq_zero_iff.mp h] at hm
      cases hm
    · have h' : ((List.range n).filter fun i => decide (ap (thn f e) i = ap (thn e f) i)).length = (List.range n).length := by rw [List.length_range]; exact h
      refine o12.ext o21 fun y hy => ?_
      have := (List.length_filter_eq_length_iff.mp h') y (List.mem_range.mpr hy)
      exact (of_decide_eq_true this).symm
  · intro h
    by_cases q : ∃ x, x < n ∧ ap f (ap e x) = ap e (ap f x)
    · right
      have he := h q
      have : ((List.range n).filter fun i => decide (ap (thn f e) i = ap (thn e f) i)).length = (List.range n).length :=
        List.length_filter_eq_length_iff.mpr fun y _ => decide_eq_true (by rw [he])
      rw [List.length_range] at this
      exact this
    · left
      rw [List.length_eq_zero_iff, List.filter_eq_nil_iff]
      intro x hx hd
      have hx' := List.mem_range.mp hx
      have hd' := of_decide_eq_true hd
      rw [ap_thn o2 hx', ap_thn o1 hx'] at hd'
      exact q ⟨x, hx', hd'.symm⟩
theorem hon_iff {es : List Eff} (o : ∀ e ∈ es, Ok n e) : HonL es ↔ Hon n fun e => e ∈ es :=
  ⟨fun h f g hf hg hx => (honP_iff (o f hf) (o g hg)).mp (h f hf g hg) hx, fun h e he f hf => (honP_iff (o e he) (o f hf)).mpr (h e f he hf)⟩
/-- the last line of the law -/
theorem honest_iff (g : DG n ds) (h5 : n ≤ 5) (h : allB26 n ds = true) (hj : ∀ x y, y < x → x < n → Joins n ds x y) {br : Option Br} (hb : FBr (bf n ds 26) br) : HonL (fsts (bf n ds 26)) ↔ br = none := by
  have M := mon_of g h hj
  rw [hon_iff (fun e he => M.ok e he), M.iff g.lo h5, ← nob_iff g]
  constructor
  · intro q
    exact hb.uniq q
  · intro q
    rw [q] at hb
    exact hb
end
end EO
end
section
set_option Elab.async false
set_option linter.all false
set_option maxRecDepth 100000
set_option maxHeartbeats 1000000
/-! the great machines -/
namespace EO
open PySem PySem.Spec PyProof.Rows L2
theorem al_perm {R : V → Eff → Prop} {ys ts : List V} (h : ys.Perm ts) : ∀ {es : List Eff}, Al R ts es → ∃ es' : List Eff, es'.Perm es ∧ Al R ys es' := by
  induction h with
  | nil => exact fun a => ⟨_, .refl _, a⟩
  | cons x _ ih =>
    intro es a
    cases es with
    | nil => exact absurd a.1 (by simp)
    | cons e es =>
      obtain ⟨v, us, q, r, a'⟩ := a.uncons
      cases q
      obtain ⟨es', p, b⟩ := ih a'
      exact ⟨e :: es', p.cons e, Al.cons r b⟩
  | swap x y l =>
    intro es a
    match es, a with
    | [], a => exact absurd a.1 (by simp)
    | [_], a => exact absurd a.1 (by simp)
    | e :: g :: es, a =>
      obtain ⟨v, us, q, r, a'⟩ := a.uncons
      cases q
      obtain ⟨v, us, q, r', a''⟩ := a'.uncons
      cases q
      exact ⟨g :: e :: es, .swap .., Al.cons r' (Al.cons r a'')⟩
  | trans _ _ i1 i2 =>
    intro es a
    obtain ⟨e1, p1, a1⟩ := i2 a
    obtain ⟨e2, p2, a2⟩ := i1 a1
    exact ⟨e2, p2.trans p1, a2⟩
theorem nxt {H : Hp} {p : Addr} (o : HO) (h : H p = none) : ∃ H', upd H p o = H' ∧ Same H H' ∧ H' p = some o := ⟨_, rfl, same_new h, upd_same⟩
/-- all but lists and tables stay: so do machines -/
theorem Mc.ext {CM : Addr} {H H' : Hp} {v : V} {n : Nat} {ds : List (Str × Eff)} (h : Mc CM H v n ds) (k : ∀ c o, (∀ xs, o ≠ HO.lst xs) → (∀ ps, o ≠ HO.tbl ps) → H c = some o → H' c = some o) : Mc CM H' v n ds := by
  obtain ⟨a, dx, fs, t, m, o, ps, e, h1, l1, l2, l3, h2, c1, c2, al, h3⟩ := h
  exact ⟨a, dx, fs, t, m, o, ps, e, k _ _ (fun _ z => nomatch z) (fun _ z => nomatch z) h1, l1, l2, l3, k _ _ (fun _ z => nomatch z) (fun _ z => nomatch z) h2, c1, c2, al.mono fun _ _ q => q.kt (fun b xs e => k _ _ (fun _ z => nomatch z) (fun _ z => nomatch z) e), k _ _ (fun _ z => nomatch z) (fun _ z => nomatch z) h3⟩
section
variable {P : Program} {w : World} {K : PySem.W.Frag} {mg : Str → Option Value} {base : Heap} {CM CN CS : Addr}
def spGreat (T0 : List (Addr × Str)) : Sp := fun vs H Q _ => ∃ d b, vs = [.ref d] ∧ De H d b ∧ LamX.Tabs T0 H ∧ ∀ H', Q (.bl true) H'
abbrev sc__law_greatN : List Str := ["_law_deal_here", "_law_places", "_law_tables_here", "_law_images", "_law_deeds_here", "_law_first", "_law_second", "_law_rows", "_law_turn", "_law_value", "_law_machine", "_law_state"]
theorem sc__law_great : FnScope sc__law_greatN ["_law_deal_here"] (defScope (topS 66)) := ⟨rfl, rfl, rfl, by decide +kernel, rfl, by decide +kernel, by decide +kernel⟩
theorem ok__law_great {cG PT : Addr} {T0 : List (Addr × Str)} (D : DfnC K mg "_law_great" (topS 66) (.ref cG)) (Dh : Dfn K mg "_law_heard" (topS 65)) (T : Txt K mg CM) (TE : TxE K P mg CN CS) (XF : XfC K CS) (hno : PySem.W.findIn K (.ref CS) "word" = some none)
    (TB : LamX.TabB base mg cG PT) (hmT : (PT, (Str.ofString "_law_great" ++ Str.ofString ".<locals>.") ++ Str.ofString "<lambda>") ∈ T0) (huT : ∀ p ∈ T0, p.1 = PT → p.2 = (Str.ofString "_law_great" ++ Str.ofString ".<locals>.") ++ Str.ofString "<lambda>")
    (c__law_any : Fn P w K mg base 1 "_law_any" spAny) (c__law_of : Fn P w K mg base 2 "_law_of" spOf) (c__law_mixed : Fn P w K mg base 2 "_law_mixed" (spMixed K)) (c__law_deeds : Fn P w K mg base 3 "_law_deeds" spDeeds)
    (cM : FnM P w K mg base CM 4 (spMInit K CM)) (c_home_breach : FnE P w K mg base 3 "home_breach" (spHB CM CS)) {kb ki : Nat} (hkb : kb ≤ 30) (hki : ki ≤ 30) (c_breach_holds : Fn P w K mg base kb "breach_holds" (spBH CM)) (c__law_is_breach : Fn P w K mg base ki "_law_is_breach" (spLB CM)) :
    Fn P w K mg base 32 "_law_great" (spGreat T0) := by
  obtain ⟨gh, fdh, F, mh⟩ := Dh.ex
  refine fn_byC D sc__law_great (fun _ _ _ _ _ _ us hl => match us, hl with | [_], _ => rfl) (fun vs H Q E h => ?_) (fun f A outer s H vs Q E hr h => ?_)
  · obtain ⟨d, b, rfl, _⟩ := h
    rfl
  · obtain ⟨d, b, rfl, hde, hT0, q⟩ := h
    obtain ⟨och, odh, kVh, doch, pmh, anh, cdh, cth, oslh, efd, lkh, hcdh⟩ := F.ex
    subst efd
    refine ⟨_, (pss_cons (ps_asg (pe_tup (pa_cons (pe_f c__law_mixed hr (by first | decide | omega) rfl (pa_cons (pv 0) (pa_cons (pe_lst (pa_cons pe_int (pa_cons pe_int (pa_cons pe_int (pa_cons pe_int (pa_cons pe_int (pa_cons pe_int pa_nil))))))) pa_nil))) (pa_cons (pe_lst pa_nil) pa_nil))) (pg_tup (n := 2) rfl (pgs_cons (pg_name (i := 1) sc__law_great.nd rfl (Or.inr rfl)) (pgs_cons (pg_name (i := 2) sc__law_great.nd rfl (Or.inl rfl)) pgs_nil))))
 (pss_cons (ps_for PassesOwn.never rfl (pi_list (pe_f c__law_of hr (by first | decide | omega) rfl (pa_cons (pv 0) (pa_cons (pe_lst (pa_cons (pe_lst (pa_cons (pe_tup (pa_cons pe_int (pa_cons pe_int (pa_cons pe_int (pa_cons pe_int (pa_cons pe_int (pa_cons pe_int pa_nil))))))) (pa_cons (pe_tup (pa_cons pe_int (pa_cons pe_int (pa_cons pe_int (pa_cons pe_int (pa_cons pe_int (pa_cons pe_int pa_nil))))))) pa_nil))) (pa_cons (pe_lst (pa_cons (pe_tup (pa_cons pe_int (pa_cons pe_int (pa_cons pe_int (pa_cons pe_int (pa_cons pe_int (pa_cons pe_int pa_nil))))))) (pa_cons (pe_tup (pa_cons pe_int (pa_cons pe_int (pa_cons pe_int (pa_cons pe_int (pa_cons pe_int (pa_cons pe_int pa_nil))))))) pa_nil))) pa_nil))) pa_nil)))) (pg_name (i := 3) sc__law_great.nd rfl (Or.inr rfl))
 (pss_one (ps_expr (pe_bm PySem.F.plainAttrs_list PySem.F.slot_list_append PySem.F.type_list_append mt_append (pv 2) (pa_cons (pe_callTy call_tuple_of rfl T.tuple PyProof.Rows.Boot.«tuple» (pa_cons (pe_lc (own := [("_law_state", 11)]) rfl sc__law_great.nd (pi_range1 rfl T.range (pa_cons pe_int pa_nil)) (blkOk_by (N := sc__law_greatN) (sc := defScope (topS 66)) (by decide +kernel)) (fun _ _ _ _ _ => (pg_name (i := 11) sc__law_great.nd rfl (Or.inl rfl))) (fun _ _ _ _ _ => pts_nil) (fun _ _ _ _ _ => (pe_ix (ix_list : IxR _ (rIxL K)) (pv 1) (pe_ix (ix_tup : IxR _ (rIxT K)) (pv 3) (pe_bmC (K := K) rfl PySem.F.plainAttrs_list PySem.F.slot_list_index PySem.F.type_list_index (mt_index : MtR _ _ (rIndex K)) (pv 1) (pa_cons (pv 11) pa_nil)) (fun _ _ => rfl)) (fun _ _ => rfl)))) pa_nil)) pa_nil)))))
 (pss_cons (ps_set (i := 4) sc__law_great.nd rfl (Or.inl rfl) (pe_f c__law_deeds hr (by first | decide | omega) rfl (pa_cons (pv 0) (pa_cons (pe_f c__law_mixed hr (by first | decide | omega) rfl (pa_cons (pv 0) (pa_cons (pv 2) pa_nil))) pa_nil))))
 (pss_cons (ps_asg (pe_tup (pa_cons (pe_mk' cM hr (by first | decide | omega) rfl (pa_cons (pv 4) pa_nil)) (pa_cons (pe_ix ix_tup (pe_ix ix_list (pv 4) pe_int (fun _ _ => rfl)) pe_int (fun _ _ => rfl)) (pa_cons (pe_ix ix_tup (pe_ix ix_list (pv 4) pe_int (fun _ _ => rfl)) pe_int (fun _ _ => rfl)) pa_nil)))) (pg_tup (n := 3) rfl (pgs_cons (pg_name (i := 10) sc__law_great.nd rfl (Or.inr rfl)) (pgs_cons (pg_name (i := 5) sc__law_great.nd rfl (Or.inl rfl)) (pgs_cons (pg_name (i := 6) sc__law_great.nd rfl (Or.inl rfl)) pgs_nil)))))
 (pss_cons (ps_if (pt_cmpR op_ne (LamX.pe_lamcall (T := T0) (TT := THeard K CS) (g := gh) (c := cG) (P := PT) (k := 3) (Ng := sc__law_heardN) (a := "_law_work") (t := fun E' => tCall (spHB CM CS) [] (fun cls d H => ∀ σ : L2.St, (fun cls d _ H => E' cls d H : WX) cls d σ H) (tCons (tVar 10) tNil)) rfl mh F.kp lkh hcdh (F.binds (fun _ _ _ _ _ _ us hl => match us, hl with | [_], _ => rfl)) sc__law_heard rfl (.inl rfl) (heard_gives TE.mS XF hno) TB rfl hmT huT (hr.mono (by first | decide | omega)) (LamX.lamS_by rfl) rfl (fun _ _ _ _ _ => rfl) (fun A' outer' s' H' E' f' c' hr' => pe_fE c_home_breach hr' (by first | decide | omega) rfl (takes_of (E := E') rfl rfl rfl rfl) (pa_cons (pe_var (i := 10) rfl (.inr (.inr rfl))) pa_nil))) pe_str (nomark _))
 (pss_one (ps_ret pe_bl))
 pss_nil)
 (pss_cons (ps_set (i := 7) sc__law_great.nd rfl (Or.inl rfl) (pe_lst (pa_cons (pe_tup (pa_cons (pv 5) pa_nil)) (pa_cons (pe_tup (pa_cons (pv 6) pa_nil)) (pa_cons (pe_tup (pa_cons (pv 5) (pa_cons (pv 6) pa_nil))) (pa_cons (pe_tup (pa_cons (pv 6) (pa_cons (pv 5) (pa_cons (pv 5) pa_nil)))) (pa_cons (pe_op op_catA (pe_tup (pa_cons (pe_tup (pa_cons (pe_tup (pa_cons (pv 6) pa_nil)) (pa_cons pe_int pa_nil))) pa_nil)) (pe_tup (pa_cons (pv 5) pa_nil))) (pa_cons (pe_op op_repT (pe_op op_catA (pe_tup (pa_cons (pv 5) pa_nil)) (pe_tup (pa_cons (pv 6) pa_nil))) pe_int) pa_nil))))))))
 (pss_cons (ps_for PassesOwn.never rfl (pi_range1 rfl T.range (pa_cons pe_int pa_nil)) (pg_name (i := 8) sc__law_great.nd rfl (Or.inl rfl))
 (pss_cons (ps_set (i := 9) sc__law_great.nd rfl (Or.inl rfl) (pe_tup (pa_cons (pe_f c__law_of hr (by first | decide | omega) rfl (pa_cons (pv 0) (pa_cons (pv 7) pa_nil))) (pa_cons (pe_f c__law_of hr (by first | decide | omega) rfl (pa_cons (pv 0) (pa_cons (pv 7) pa_nil))) (pa_cons (pe_f c__law_of hr (by first | decide | omega) rfl (pa_cons (pv 0) (pa_cons (pe_lst (pa_cons pe_non (pa_cons (pe_f c__law_any hr (by first | decide | omega) rfl (pa_cons (pv 0) (pa_cons pe_int pa_nil))) (pa_cons (pe_f c__law_any hr (by first | decide | omega) rfl (pa_cons (pv 0) (pa_cons pe_int pa_nil))) pa_nil)))) pa_nil))) pa_nil)))))
 (pss_one (ps_if (pt_cmpR op_ne (pe_callB cr_reprB rfl T.repr PyProof.Rows.Boot.«repr» (pa_cons (pe_f c_breach_holds hr (by first | decide | omega) rfl (pa_cons (pv 10) (pa_cons (pv 9) pa_nil))) pa_nil)) (pe_callB cr_reprB rfl T.repr PyProof.Rows.Boot.«repr» (pa_cons (pe_f c__law_is_breach hr (by first | decide | omega) rfl (pa_cons (pv 4) (pa_cons (pv 9) pa_nil))) pa_nil)) (nomark _))
 (pss_one (ps_ret pe_bl))
 pss_nil))))
 (pss_one (ps_ret pe_bl))))))))), ?_⟩
    have z2 : 2 ≤ sizeLine := by decide
    have z6 : 6 ≤ sizeLine := by decide
    refine ⟨.ref d, rfl, z6, fun pr hpr => ⟨d, b, pr, vns (idE 6), rfl, hde.same (same_new hpr), SqL.of upd_same, ?_, by decide, fun H3 l ys hperm kp3 de3 e3 hl3 => ?_⟩⟩
    · intro v hv
      obtain ⟨y, _, rfl⟩ := List.mem_map.mp hv
      exact .inl ⟨_, rfl⟩
    obtain ⟨names, hper, rfl⟩ := perm_names hperm
    have nm := nm_of hper
    refine ⟨Nat.zero_le _, fun p hp => ⟨z2, fun t ht => ⟨t, _, rfl, SqT.of upd_same, rfl, _, _, rfl, _, _, rfl, rfl, ?_⟩⟩⟩
    have smp := same_new (o := HO.lst []) hp
    have smt := same_new (o := HO.tup [V.ref l, V.ref p]) ht
    have kB : Kp d b H _ := (Kp.same (same_new hpr)).trans (kp3.trans ((Kp.same smp).trans (Kp.same smt)))
    have hp0 : H p = none := kp_none ((Kp.same (same_new hpr)).trans kp3) de3 hp
    have np : l ≠ p := ne_of_none e3 hp
    have nd := de3.new hp
    have nl : l ≠ d ∧ l ≠ b := (hde.same (same_new hpr)).new hl3
    have dB := (de3.same smp).same smt
    have eB := smt _ _ (smp _ _ e3)
    have epB := smt p _ upd_same
    have hl0 : H l = none := none_back (same_new hpr) hl3
    generalize upd (upd H3 p (.lst [])) t (.tup [V.ref l, V.ref p]) = HB at *
    refine ⟨.ref d, rfl, z6, fun a1 h1 => ⟨z6, fun a2 h2 => ⟨z2, fun b1 hb1 => ⟨z6, fun a3 h3 => ⟨z6, fun a4 h4 => ⟨z2, fun b2 hb2 => ⟨z2, fun lo hlo => ?_⟩⟩⟩⟩⟩⟩⟩
    have s1 := same_new (o := HO.tup (vns [1, 2, 3, 4, 5, 0])) h1
    have s2 := same_new (o := HO.tup (vns [1, 0, 2, 3, 4, 5])) h2
    have s3 := same_new (o := HO.lst [V.ref a1, V.ref a2]) hb1
    have s4 := same_new (o := HO.tup (vns [1, 2, 3, 4, 0, 5])) h3
    have s5 := same_new (o := HO.tup (vns [0, 1, 2, 4, 5, 3])) h4
    have s6 := same_new (o := HO.lst [V.ref a3, V.ref a4]) hb2
    have s7 := same_new (o := HO.lst [V.ref b1, V.ref b2]) hlo
    have s17 := s1.trans (s2.trans (s3.trans (s4.trans (s5.trans (s6.trans s7)))))
    have dC := dB.same s17
    have nlo := (dB.same (s1.trans (s2.trans (s3.trans (s4.trans (s5.trans s6)))))).new hlo
    have nb1 := (dB.same (s1.trans s2)).new hb1
    have nb2 := (dB.same (s1.trans (s2.trans (s3.trans (s4.trans s5))))).new hb2
    refine ⟨d, b, lo, _, rfl, dC, upd_same, nlo.1, nlo.2, by simp, by simp, fun H4 ix xv hxv k4 de4 => ?_⟩
    have kC := kB.trans ((Kp.same s17).trans k4)
    have pick : ∃ la u1 u2 g, xv = .ref la ∧ (g = gA ∨ g = gB) ∧ H4 la = some (.lst [.ref u1, .ref u2]) ∧ Al (Ef H4) [.ref u1, .ref u2] g := by
      match ix, hxv with
      | 0, h =>
        refine ⟨b1, a1, a2, gA, (Option.some.inj h).symm, .inl rfl, k4 _ _ nb1.1 nb1.2 (s7 _ _ (s6 _ _ (s5 _ _ (s4 _ _ upd_same)))), ?_⟩
        exact Al.cons ⟨a1, rfl, de4.kt Kp.refl _ _ (dC.kt k4 _ _ (kt (s2.trans (s3.trans (s4.trans (s5.trans (s6.trans s7))))) _ _ upd_same))⟩ (Al.cons ⟨a2, rfl, dC.kt k4 _ _ (kt (s3.trans (s4.trans (s5.trans (s6.trans s7)))) _ _ upd_same)⟩ Al.nil)
      | 1, h =>
        refine ⟨b2, a3, a4, gB, (Option.some.inj h).symm, .inr rfl, k4 _ _ nb2.1 nb2.2 (s7 _ _ upd_same), ?_⟩
        exact Al.cons ⟨a3, rfl, dC.kt k4 _ _ (kt (s5.trans (s6.trans s7)) _ _ upd_same)⟩ (Al.cons ⟨a4, rfl, dC.kt k4 _ _ (kt (s6.trans s7) _ _ upd_same)⟩ Al.nil)
      | _ + 2, h => simp at h
    obtain ⟨la, u1, u2, g, rfl, hg, hla, halg⟩ := pick
    have el4 := k4 _ _ nl.1 nl.2 (s17 _ _ eB)
    have ep4 := k4 _ _ nd.1 nd.2 (s17 _ _ epB)
    have gok : ∀ e ∈ g, Ok 6 e := by rcases hg with rfl | rfl; exact gA_ok; exact gB_ok
    have glen : g.length = 2 := by rcases hg with rfl | rfl <;> rfl
    refine ⟨la, rfl, ⟨_, SqL.of hla⟩, for_it walk_list (fun i σ H' => ∃ x3 xs, σ = [some (.ref d), some (.ref l), some (.ref p), x3, none, none, none, none, none, none, none, none] ∧ Kp d b H H' ∧ KT H4 H' ∧ De H' d b ∧ H' la = some (.lst [.ref u1, .ref u2]) ∧ H' l = some (.lst (vns names)) ∧ H' p = some (.lst xs) ∧ Al (Ef H') xs ((g.take i).map (cjg names)))
      ⟨_, [], rfl, kC, KT.refl _, de4, hla, el4, ep4, Al.nil⟩ (fun _ _ _ _ h => SqL.of (by obtain ⟨_, _, _, _, _, _, h, _⟩ := h; exact h)) ?_ ?_⟩
    · rintro i y σ H5 H6 hi ⟨x3, xs, rfl, kp5, kt5, de5, ela, el, ep, hal⟩ ⟨rfl, hy⟩
      obtain ⟨e, he, u, rfl, hu⟩ := halg.at' hy
      have oe := gok e (List.mem_of_getElem? he)
      have hu5 := kt5 _ _ hu
      have hi2 : i < 2 := hi
      refine ⟨.ref p, rfl, .inl ⟨rfl, _, SqL.of ep⟩, _, rfl, by decide, by decide, fun Dl hD => lc_it walk_range (fun i H' => Same H6 H' ∧ H' Dl = some (.lst (vns ((List.range i).map fun s => ap names (ap e (names.idxOf s)))))) ⟨same_new hD, upd_same⟩ (fun _ _ _ _ => True.intro) ?_ ?_⟩
      · rintro s y H7 H8 hs ⟨sm, eD⟩ ⟨rfl, rfl⟩
        have hs6 : s < 6 := by simpa using hs
        have hn := nm_at nm hs6
        have ev : V.int (0 + (s : Int)) = vn s := by rw [Int.zero_add]; rfl
        have hlt : names.idxOf s < names.length := by rw [nm.len]; exact hn.1
        have hget := ap_get hlt
        rw [hn.2] at hget
        have hel : names.idxOf s < e.length := by rw [oe.len]; exact hn.1
        have helt := oe.ap_lt hn.1
        have hnl : ap e (names.idxOf s) < names.length := by rw [nm.len]; exact helt
        refine ⟨rfl, .ref l, rfl, .ref u, rfl, .ref l, rfl, .inl ⟨rfl, _, SqL.of (sm _ _ el)⟩, _, rfl, l, vns names, vn s, names.idxOf s, vn s, rfl, congrArg (fun z => [z]) ev, SqL.of (sm _ _ el), rfl, ?_, ?_, ?_, ?_, u, vns e, (names.idxOf s : Nat), vn (ap e (names.idxOf s)), rfl, rfl, SqT.of (sm _ _ hu5), ?_, l, vns names, (ap e (names.idxOf s) : Nat), vn (ap names (ap e (names.idxOf s))), rfl, rfl, SqL.of (sm _ _ el), ?_, _, eD, ?_, same_at sm hD, ?_⟩
        · rw [List.all_map, List.all_eq_true]; exact fun _ _ => rfl
        · rw [List.getElem?_map, hget]; rfl
        · exact beq_self_eq_true _
        · intro m z' hm hz'
          obtain ⟨hml, rfl⟩ := vns_at hz'
          refine beq_eq_false_iff_ne.mpr fun q => ?_
          have q' : ap names m = s := Int.ofNat.inj q
          have := nm_idx nm (i := m) (by rw [← nm.len]; exact hml)
          rw [q'] at this
          omega
        · exact atI_nat (by rw [List.getElem?_map, ap_get hel]; rfl)
        · exact atI_nat (by rw [List.getElem?_map, ap_get hnl]; rfl)
        · rw [List.length_map, List.length_map, List.length_range]
          exact szl (by omega)
        · rw [upd_same, List.range_succ, List.map_append]
          exact congrArg (fun l => some (HO.lst l)) (by rw [vns, vns, List.map_append]; rfl)
      · rintro H7 ⟨sm, eD⟩
        have eD' : H7 Dl = some (.lst (vns (cjg names e))) := eD
        refine ⟨Dl, _, rfl, .inl ⟨SqL.of eD', fun tt htt => ?_⟩⟩
        have smt3 := same_new (o := HO.tup (vns (cjg names e))) htt
        have ep2 := smt3 _ _ (sm _ _ ep)
        have xl : xs.length ≤ 2 := by
          have := hal.1
          rw [List.length_map, List.length_take, glen] at this
          omega
        refine ⟨p, xs, .ref tt, rfl, rfl, ep2, szl (by omega), ?_⟩
        have k6 := kt_lst (o := HO.lst (xs ++ [.ref tt])) ep2
        have smA := sm.trans smt3
        have nlp : la ≠ p := fun z => by
          rw [z, ep4] at hla
          cases hla
        refine ⟨_, xs ++ [.ref tt], rfl, fun c o m1 m2 hc => ?_, (kt5.trans (kt smA)).trans k6, (de5.same smA).upd nd.1 nd.2, by rw [upd_ne nlp]; exact smA _ _ ela, by rw [upd_ne np]; exact smA _ _ el, upd_same, ?_⟩
        · rw [upd_ne (ne_of_none hc hp0)]
          exact smA _ _ (kp5 c o m1 m2 hc)
        · rw [List.take_add_one, List.map_append]
          rw [he]
          exact al_append (hal.mono fun _ _ h => h.kt ((kt smA).trans k6)) (Al.cons ⟨tt, rfl, k6 _ _ upd_same⟩ Al.nil)
    · rintro σ H5 ⟨x3, xs, rfl, kp5, kt5, de5, ela, el, ep, hal⟩
      have hal' : Al (Ef H5) xs (g.map (cjg names)) := by
        have e2 : g.take [V.ref u1, V.ref u2].length = g := by
          show g.take 2 = g
          rw [← glen, List.take_length]
        rw [e2] at hal
        exact hal
      have hxl : xs.length = 2 := by rw [hal'.1, List.length_map, glen]
      refine ⟨.ref d, rfl, .ref d, rfl, .ref p, rfl, d, b, p, xs, rfl, de5, SqL.of ep, ?_, by omega, fun H6 l2 ys hperm2 kp6 de6 e6 hl6 => ?_⟩
      · intro v hv
        obtain ⟨j, hj⟩ := List.getElem?_of_mem hv
        obtain ⟨e, _, he⟩ := hal'.at' hj
        exact .inr ⟨e, he⟩
      have hal6 : Al (Ef H6) xs (g.map (cjg names)) := hal'.mono fun _ _ h => h.kt (de5.kt kp6)
      obtain ⟨es, hes, hale⟩ := al_perm hperm2 hal6
      have nl6 := de5.new hl6
      have esl : es.length = 2 := by rw [hes.length_eq, List.length_map, glen]
      refine ⟨d, b, l2, ys, es, rfl, de6, e6, hale, nl6.1, nl6.2, by omega, fun H7 ld zs ds hds hnd hnm hald kp7 de7 e7 hl7 => ?_⟩
      have hdsl : ds.length = 2 := by rw [← esl, ← hds, List.length_map]
      have okd : ∀ q ∈ ds, Ok 6 q.2 := fun q hq => by
        have h1 : q.2 ∈ es := by rw [← hds]; exact List.mem_map_of_mem hq
        have h2 := hes.mem_iff.mp h1
        obtain ⟨e, he, q1⟩ := List.mem_map.mp h2
        rw [← q1]
        exact cjg_ok nm (gok e he)
      have hdg : DG 6 ds := ⟨hnd, okd, hnm, by decide, by decide, by omega⟩
      have hgreat : ∃ k, 300 < (bf 6 ds k).length := great_bf nm hg (by rw [hds]; exact hes)
      obtain ⟨d0, d1, rfl⟩ : ∃ d0 d1, ds = [d0, d1] := by
        match ds, hdsl with
        | [d0, d1], _ => exact ⟨d0, d1, rfl⟩
      have kp17 : Kp d b H H7 := kp5.trans (kp6.trans kp7)
      have hld : LD H7 ld [d0, d1] := ⟨zs, e7, hald⟩
      obtain ⟨v0, r0, q0, ⟨a0, y0, rfl, f0, f0'⟩, hr0⟩ := hald.uncons
      obtain ⟨v1, r1, q1, ⟨a1', y1, rfl, f1, f1'⟩, hr1⟩ := hr0.uncons
      have hr1' := hr1.nil_iff
      subst hr1'
      subst q1
      subst q0
      have nld : ld ≠ d ∧ ld ≠ b := de6.new hl7
      refine ⟨.ref ld, rfl, fun x dx hx hdx hne => ?_⟩
      have so := same_new (o := HO.own x) hdx
      have sx := same_new (o := HO.ins CM dx []) (H := upd H7 dx (.own x)) (by rw [upd_ne (Ne.symm hne)]; exact hx)
      have smM := so.trans sx
      refine ⟨x, dx, ld, _, [d0, d1], 6, rfl, upd_same, SqL.of (smM _ _ e7), smM _ _ e7, hald.mono fun _ _ h => h.kt (kt smM), hdg, (by show 1 ≤ 2; decide), fun H8 hk8 hmc => ⟨rfl, ?_⟩⟩
      have sm78 : Same H7 H8 := fun c o hc => hk8 c o (ne_of_none hc hx) (smM _ _ hc)
      refine ⟨.ref ld, rfl, ld, _, 0, .ref a0, rfl, rfl, SqL.of (sm78 _ _ e7), rfl, a0, _, 0, .str d0.1, rfl, rfl, SqT.of (sm78 _ _ f0), rfl, .ref ld, rfl, ld, _, 1, .ref a1', rfl, rfl, SqL.of (sm78 _ _ e7), rfl, a1', _, 0, .str d1.1, rfl, rfl, SqT.of (sm78 _ _ f1), rfl, by show 3 ≤ sizeLine; decide, fun t3 ht3 => ⟨t3, _, rfl, SqT.of upd_same, rfl, _, _, rfl, _, _, rfl, _, _, rfl, rfl, ?_⟩⟩
      have st3 := same_new (o := HO.tup [.ref x, .str d0.1, .str d1.1]) ht3
      have sm79 := sm78.trans st3
      have hmc9 := hmc.kn (KN.of st3)
      have hld9 := hld.sm sm79
      have de9 := de7.same sm79
      have hT9 : LamX.Tabs T0 (upd H8 t3 (.tup [.ref x, .str d0.1, .str d1.1])) := by
        intro pq hpq
        obtain ⟨ps, g1, g2, g3⟩ := hT0 pq hpq
        have keep : ∀ c o, H c = some o → (∀ ys : List V, o ≠ .lst ys) → upd H8 t3 (.tup [.ref x, .str d0.1, .str d1.1]) c = some o := fun c o hc nl => sm79 _ _ (kp17 c o (hde.not hc nl).1 (hde.not hc nl).2 hc)
        refine ⟨ps, keep _ _ g1 (fun _ z => nomatch z), g2, fun pos cv hcv => ?_⟩
        obtain ⟨c, k1, k2⟩ := g3 pos cv hcv
        exact ⟨c, k1, keep _ _ k2 (fun _ z => nomatch z)⟩
      refine ⟨hT9, fun H10 ext tabs10 => ⟨.ref x, rfl, 6, [d0, d1], .ref x, rfl, ?_, hdg, fun H' v N b hN hN3 _ _ _ => ?_, fun _ H' d' sm' hd' σ => ⟨true, TE.eS, fun _ => ⟨rfl, d', _, .str "effects", rfl, upd_same, rfl, ?_⟩, fun z => nomatch z⟩⟩⟩
      · exact hmc9.ext fun c o _ nt hc => ext c o hc nt
      · obtain ⟨k, hk⟩ := hgreat
        have := (bf_pre (j := k) (Nat.le_of_eq hN)).len
        omega
      have smd := same_new (o := HO.xd [("word", .str "effects")]) hd'
      have keep : ∀ c o, (∀ ps, o ≠ HO.tbl ps) → upd H8 t3 (.tup [.ref x, .str d0.1, .str d1.1]) c = some o → upd H' d' (.xd [("word", .str "effects")]) c = some o := fun c o nt hc => smd _ _ (sm' _ _ (ext c o hc nt))
      have hmcZ := hmc9.ext fun c o _ nt hc => keep c o nt hc
      have ktZ : KT (upd H8 t3 (.tup [.ref x, .str d0.1, .str d1.1])) (upd H' d' (.xd [("word", .str "effects")])) := fun c xs hc => keep c _ (fun _ z => nomatch z) hc
      have deZ : De (upd H' d' (.xd [("word", .str "effects")])) d b := by
        obtain ⟨ns, m, e1, e2, r⟩ := de9
        exact ⟨ns, m, keep _ _ (fun _ z => nomatch z) e1, keep _ _ (fun _ z => nomatch z) e2, r⟩
      have hldZ : LD (upd H' d' (.xd [("word", .str "effects")])) ld [d0, d1] := by
        obtain ⟨xs', e1, e2⟩ := hld9
        exact ⟨xs', keep _ _ (fun _ z => nomatch z) e1, e2.mono fun _ _ h => h.kt ktZ⟩
      generalize upd H' d' (.xd [("word", .str "effects")]) = HZ at *
      refine ⟨rfl, _, rfl, ite2 (fun z => absurd z (by decide)) (fun _ => ?_)⟩
      have z1 : 1 ≤ sizeLine := by decide
      have z3 : 3 ≤ sizeLine := by decide
      have z4 : 4 ≤ sizeLine := by decide
      refine ⟨.str d0.1, rfl, z1, fun r1 hr1 => ⟨.str d1.1, rfl, z1, fun r2 hr2 => ⟨.str d0.1, rfl, .str d1.1, rfl, z2, fun r3 hr3 => ⟨.str d1.1, rfl, .str d0.1, rfl, .str d0.1, rfl, z3, fun r4 hr4 => ⟨.str d1.1, rfl, z1, fun e1 he1 => ⟨z2, fun e2 he2 => ⟨z1, fun e3 he3 => ⟨.str d0.1, rfl, z1, fun e4 he4 => ?_⟩⟩⟩⟩⟩⟩⟩⟩
      have s1 := same_new (o := HO.tup (vss [d0.1])) hr1
      have s2 := same_new (o := HO.tup (vss [d1.1])) hr2
      have s3 := same_new (o := HO.tup (vss [d0.1, d1.1])) hr3
      have s4 := same_new (o := HO.tup (vss [d1.1, d0.1, d0.1])) hr4
      have t1 := same_new (o := HO.tup (vss [d1.1])) he1
      have t2 := same_new (o := HO.tup [V.ref e1, vn 5]) he2
      have t3' := same_new (o := HO.tup [V.ref e2]) he3
      have t4 := same_new (o := HO.tup [V.str d0.1]) he4
      refine ⟨e3, e4, _, _, rfl, rfl, SqT.of (t4 _ _ upd_same), SqT.of upd_same, z2, fun e => absurd e (by simp), fun _ e => absurd e (by simp), fun _ _ r5 hr5 => ⟨.str d0.1, rfl, z1, fun g1 hg1 => ⟨.str d1.1, rfl, z1, fun g2 hg2 => ?_⟩⟩⟩
      have s5 := same_new (o := HO.tup [V.ref e2, V.str d0.1]) hr5
      have q1 := same_new (o := HO.tup [V.str d0.1]) hg1
      have q2 := same_new (o := HO.tup [V.str d1.1]) hg2
      refine ⟨g1, g2, _, _, rfl, rfl, SqT.of (q2 _ _ upd_same), SqT.of upd_same, z2, fun e => absurd e (by simp), fun _ e => absurd e (by simp), fun _ _ g3 hg3 => ⟨g3, 2, _, rfl, rfl, SqT.of upd_same, by simp, by decide, by decide, by simp, fun r6 hr6 => ⟨by show 6 ≤ sizeLine; decide, fun rl hrl => ?_⟩⟩⟩
      have q3 := same_new (o := HO.tup [V.str d0.1, V.str d1.1]) hg3
      have s6 := same_new (o := HO.tup (vss [d0.1, d1.1, d0.1, d1.1])) hr6
      obtain ⟨HW, eHW, srl, erl⟩ := nxt (HO.lst [V.ref r1, .ref r2, .ref r3, .ref r4, .ref r5, .ref r6]) hrl
      rw [eHW]
      have c5 := s6.trans srl
      have c4 := q1.trans (q2.trans (q3.trans c5))
      have c3 := t1.trans (t2.trans (t3'.trans (t4.trans (s5.trans c4))))
      have c2 := s3.trans (s4.trans c3)
      have call := s1.trans (s2.trans c2)
      have ro : ∀ (r : List Str), (∀ z ∈ r, z = d0.1 ∨ z = d1.1) → r.length ≤ 10 → RowOk [d0, d1] r := fun r hz hl => ⟨fun z h => by
        rcases hz z h with rfl | rfl
        · simp
        · simp, by omega⟩
      have rowsOk : ∀ v ∈ [V.ref r1, .ref r2, .ref r3, .ref r4, .ref r5, .ref r6], ∃ X, CpR CM HW [d0, d1] v X := by
        intro v hv
        rcases List.mem_cons.mp hv with rfl | hv
        · exact ⟨_, (ro [d0.1] (by simp) (by simp)).cp hdg ⟨r1, rfl, (s2.trans c2) _ _ upd_same⟩⟩
        rcases List.mem_cons.mp hv with rfl | hv
        · exact ⟨_, (ro [d1.1] (by simp) (by simp)).cp hdg ⟨r2, rfl, c2 _ _ upd_same⟩⟩
        rcases List.mem_cons.mp hv with rfl | hv
        · exact ⟨_, (ro [d0.1, d1.1] (by simp) (by simp)).cp hdg ⟨r3, rfl, (s4.trans c3) _ _ upd_same⟩⟩
        rcases List.mem_cons.mp hv with rfl | hv
        · exact ⟨_, (ro [d1.1, d0.1, d0.1] (by simp) (by simp)).cp hdg ⟨r4, rfl, c3 _ _ upd_same⟩⟩
        rcases List.mem_cons.mp hv with rfl | hv
        · refine ⟨.row [.pw [d1.1] 5, .nm d0.1], ⟨r5, _, rfl, c4 _ _ upd_same, Al.cons ⟨e2, .ref e1, rfl, (t3'.trans (t4.trans (s5.trans c4))) _ _ upd_same, e1, rfl, (t2.trans (t3'.trans (t4.trans (s5.trans c4)))) _ _ upd_same⟩ (Al.cons rfl Al.nil), ?_, (by show 2 ≤ 1000; decide)⟩, ?_⟩
          · intro pt hpt
            rcases List.mem_cons.mp hpt with rfl | hpt
            · exact ⟨fun z hz => by rw [List.mem_singleton.mp hz]; exact hnm d1 (by simp), by decide, (by show 1 ≤ 1000; decide)⟩
            · rw [List.mem_singleton.mp hpt]
              exact hnm d0 (by simp)
          · intro r k hm z hz
            rcases List.mem_cons.mp hm with e | hm
            · cases e
              rw [List.mem_singleton.mp hz]
              simp
            · cases List.mem_singleton.mp hm
        · rw [List.mem_singleton.mp hv]
          exact ⟨_, (ro [d0.1, d1.1, d0.1, d1.1] (by simp) (by simp)).cp hdg ⟨r6, rfl, srl _ _ upd_same⟩⟩
      have deW := deZ.same call
      have hmcW := hmcZ.kn (KN.of call)
      have hldW := hldZ.sm call
      have nrl : rl ≠ d ∧ rl ≠ b := (deZ.same (s1.trans (s2.trans (s3.trans (s4.trans (t1.trans (t2.trans (t3'.trans (t4.trans (s5.trans (q1.trans (q2.trans (q3.trans s6))))))))))))).new hrl
      obtain ⟨zs', hzl, hzal⟩ := hldW
      refine ⟨_, rfl, by decide, by decide, for_it walk_range (fun t σ H' => ∃ x8 x9, σ = [some (.ref d), some (.ref l), some (.ref p), x3, some (.ref ld), some (.str d0.1), some (.str d1.1), some (.ref rl), x8, x9, some (.ref x), none] ∧ De H' d b ∧ Kp d b HW H') ⟨_, _, rfl, deW, Kp.refl⟩ (fun _ _ _ _ _ => True.intro) ?_ ?_⟩
      · rintro t y σ HA HB' ht ⟨x8, x9, rfl, dA, kA⟩ ⟨rfl, rfl⟩
        have erA := kA _ _ nrl.1 nrl.2 erl
        refine ⟨.ref d, rfl, .ref rl, rfl, d, b, rl, _, rfl, dA, erA, nrl.1, nrl.2, by simp, by simp, fun Ha i1 v1 hv1 ka da => ?_⟩
        have k1 := kA.trans ka
        refine ⟨.ref d, rfl, .ref rl, rfl, d, b, rl, _, rfl, da, k1 _ _ nrl.1 nrl.2 erl, nrl.1, nrl.2, by simp, by simp, fun Hb i2 v2 hv2 kb db => ?_⟩
        have k2 := k1.trans kb
        refine ⟨.ref d, rfl, .ref d, rfl, d, b, 6, rfl, by decide, by decide, db, fun Hc a3 ha3 kc dc => ⟨.ref d, rfl, d, b, 6, rfl, by decide, by decide, dc, fun Hd a4 ha4 kd dd => ⟨z3, fun lz hlz => ?_⟩⟩⟩
        refine ⟨d, b, lz, _, rfl, dd.same (same_new hlz), upd_same, (dd.new hlz).1, (dd.new hlz).2, by simp, by simp, fun He iz xv hxv ke de' => ⟨z3, fun tv htv => ?_⟩⟩
        have slz := same_new (o := HO.lst [V.non, vn a3, vn a4]) hlz
        have stv := same_new (o := HO.tup [v1, v2, xv]) htv
        have kF := k2.trans (kc.trans (kd.trans ((Kp.same slz).trans (ke.trans (Kp.same stv)))))
        have dF := de'.same stv
        have hz : ∃ Z, ∀ H', ZtR CM H' xv Z := by
          match iz, hxv with
          | 0, h => exact ⟨.non, fun _ => (Option.some.inj h).symm⟩
          | 1, h => exact ⟨.int a3, fun _ => (Option.some.inj h).symm⟩
          | 2, h => exact ⟨.int a4, fun _ => (Option.some.inj h).symm⟩
          | _ + 3, h => simp at h
        obtain ⟨Z, hZ⟩ := hz
        have kxF := deW.kx (CM := CM) kF dF
        obtain ⟨X, hX⟩ := rowsOk v1 (List.mem_of_getElem? hv1)
        obtain ⟨Y, hY⟩ := rowsOk v2 (List.mem_of_getElem? hv2)
        have hmcF := hmcW.kn (deW.kn kF)
        refine ⟨.ref x, rfl, .ref tv, rfl, 6, [d0, d1], .ref x, .ref tv, rfl, hmcF, hdg, .inr (.inl ⟨tv, v1, v2, xv, X, Y, Z, rfl, upd_same, hX.kx kxF, hY.kx kxF, hZ _, fun Hf smf => ⟨_, rfl, .ref ld, rfl, .ref tv, rfl, 6, [d0, d1], ld, .ref tv, rfl, ⟨zs', smf _ _ (kF _ _ nld.1 nld.2 hzl), hzal.mono fun _ _ h => h.kt ((deW.kt kF).trans (kt smf))⟩, hdg, (by show 1 ≤ 2; decide), .inr ⟨tv, v1, v2, xv, X, Y, Z, rfl, smf _ _ upd_same, (hX.kx kxF).kx (kx smf), (hY.kx kxF).kx (kx smf), hZ _, fun Hg smg => ⟨_, rfl, rfl, _, rfl, ite2 (fun z => ?_) (fun z => ?_)⟩⟩⟩⟩)⟩
        · exact absurd z (by simp)
        · exact ⟨_, _, rfl, (dF.same smf).same smg, kF.trans (Kp.same (smf.trans smg))⟩
      · rintro σ HA ⟨x8, x9, rfl, dA, kA⟩
        exact q _
end
end EO
end
section
set_option Elab.async false
set_option linter.all false
set_option maxRecDepth 100000
set_option maxHeartbeats 1000000
/-! the law -/
namespace EO
open PySem PySem.Spec PyProof.Rows L2
section
variable {P : Program} {w : World} {K : PySem.W.Frag} {mg : Str → Option Value} {base : Heap} {CM CN CS : Addr}
theorem ixN_n {n j : Nat} (h : j < n) : ixN n (j : Int) = some j := by
  unfold ixN
  rw [if_pos (Int.natCast_nonneg j), if_pos (Int.ofNat_lt.mpr h)]
  rfl
theorem cutV_tail (xs : List V) (h : 1 ≤ xs.length) : cutV xs (some 1) none = xs.drop 1 := by
  unfold cutV
  have e1 : HT.sIx xs.length 0 (some 1) = 1 := by
    have := HT.sIx_nat xs.length 0 1
    rw [show ((1 : Nat) : Int) = 1 from rfl] at this
    rw [this, Nat.min_eq_left h]
  have e2 : HT.sIx xs.length xs.length none = xs.length := rfl
  rw [e1, e2]
  exact List.take_of_length_le (by rw [List.length_drop]; omega)
/-- what is no breach, whatever the machine -/
def Nn (CM : Addr) (H : Hp) (n : Nat) (ds : List (Str × Eff)) (v : V) : Prop :=
  (∃ d, Rp CM H v d ∧ (isT d = false ∨ ∃ xs, d = .tuple xs ∧ xs.length ≠ 3 ∧ xs.length ≤ 1000)) ∨
  (∃ a x y z X Y Z, v = .ref a ∧ H a = some (.tup [x, y, z]) ∧ CpR CM H ds x X ∧ CpR CM H ds y Y ∧ ZtR CM H z Z ∧ isBr n ds X Y Z = false) ∨
  ∃ a x y z Y, v = .ref a ∧ H a = some (.tup [x, y, z]) ∧ CpR CM H ds x .oth ∧ CpR CM H ds y Y
theorem Nn.kx {CM : Addr} {H H' : Hp} {n : Nat} {ds : List (Str × Eff)} {v : V} (h : Nn CM H n ds v) (k : KX CM H H') : Nn CM H' n ds v := by
  rcases h with ⟨d, h, e⟩ | ⟨a, x, y, z, X, Y, Z, e, h, hx, hy, hz, q⟩ | ⟨a, x, y, z, Y, e, h, hx, hy⟩
  · exact .inl ⟨d, h.mono k, e⟩
  · exact .inr (.inl ⟨a, x, y, z, X, Y, Z, e, k.t _ _ h, hx.kx k, hy.kx k, hz.kx k, q⟩)
  · exact .inr (.inr ⟨a, x, y, z, Y, e, k.t _ _ h, hx.kx k, hy.kx k⟩)
theorem Mc.rp {CM : Addr} {H : Hp} {x : Addr} {n : Nat} {ds : List (Str × Eff)} (h : Mc CM H (.ref x) n ds) : Rp CM H (.ref x) (.dict []) := by
  obtain ⟨a, dx, fs, t, m, o, ps, e, h1, _⟩ := h
  cases e
  exact .ins h1
theorem tabs_keep {T0 : List (Addr × Str)} {H H' : Hp} (h : LamX.Tabs T0 H) (k : ∀ c o, (∀ xs, o ≠ HO.lst xs) → H c = some o → H' c = some o) : LamX.Tabs T0 H' := by
  intro pq hpq
  obtain ⟨ps, g1, g2, g3⟩ := h pq hpq
  refine ⟨ps, k _ _ (fun _ z => nomatch z) g1, g2, fun pos cv hcv => ?_⟩
  obtain ⟨c, k1, k2⟩ := g3 pos cv hcv
  exact ⟨c, k1, k _ _ (fun _ z => nomatch z) k2⟩
def spLaw (K : PySem.W.Frag) (T0 : List (Addr × Str)) : Sp := fun vs H Q _ => ∃ a, ∃ ns : List Int, vs = [.ref a] ∧ SqL K H a (vis ns) ∧ ns.length ≤ 63 ∧ LamX.Tabs T0 H ∧ ∀ H', Q (.bl true) H'
abbrev sc_lawN : List Str := ["_law_script", "_law_deal_here", "_law_deeds_here", "_law_machine", "_law_is_told", "_law_due", "_law_listed_here", "_law_is_all", "_law_size", "_law_images", "_law_at", "_law_to", "_law_value", "_law_effect_here", "_law_row"]
theorem sc_law : FnScope sc_lawN ["_law_script"] (defScope (topS 68)) := ⟨rfl, rfl, rfl, by decide +kernel, rfl, by decide +kernel, by decide +kernel⟩
theorem ok_law {T0 : List (Addr × Str)} (D : Dfn K mg "law" (topS 68)) (T : Txt K mg CM)
    (c__law_deal : Fn P w K mg base 1 "_law_deal" (spDeal K)) (c__law_any : Fn P w K mg base 1 "_law_any" spAny) (c__law_great : Fn P w K mg base 32 "_law_great" (spGreat T0)) (c__law_deeds : Fn P w K mg base 3 "_law_deeds" spDeeds) (c__law_tables : Fn P w K mg base 3 "_law_tables" spTables)
    (cM : FnM P w K mg base CM 4 (spMInit K CM)) (c__law_told : FnG P w K mg base 6 "_law_told" spTold) {kb ki : Nat} (hkb : kb ≤ 30) (hki : ki ≤ 30) (cB : FnK P w K mg base CX0 kb "breach_holds" (topS 44) ["machine", "value"] (spBH CM)) (c__law_is_breach : Fn P w K mg base ki "_law_is_breach" (spLB CM))
    (c__law_papers : Fn P w K mg base 3 "_law_papers" (spPap CM)) (c__law_is_unbreakable : Fn P w K mg base 2 "_law_is_unbreakable" spUnb) (c__law_is_honest : Fn P w K mg base 2 "_law_is_honest" spHon) :
    FnG P w K mg base 34 "law" (spLaw K T0) := by
  have c_breach_holds := cB.fn (fun _ _ _ _ _ _ us hl => match us, hl with | [_, _], _ => rfl)
  obtain ⟨fB, kVB, docB, pmB, anB, cdvB, ctB, FB, mB, kpB⟩ := cB.ex
  refine fn_byG D sc_law (fun _ _ _ _ _ _ us hl => match us, hl with | [_], _ => rfl) (fun vs H Q E h => ?_) (fun f cdv A outer s H vs Q E hgd hr h => ?_)
  · obtain ⟨a, ns, rfl, _⟩ := h
    rfl
  · obtain ⟨a, ns, rfl, ha, hl63, hT0, q⟩ := h
    refine ⟨_, (pss_cons (ps_set (i := 1) sc_law.nd rfl (Or.inl rfl) (pe_f c__law_deal hr (by first | decide | omega) rfl (pa_cons (pv 0) (pa_cons pe_int pa_nil))))
 (pss_cons (ps_if (pt_cmpR op_eq (pe_f c__law_any hr (by first | decide | omega) rfl (pa_cons (pv 1) (pa_cons pe_int pa_nil))) pe_int (nomark _))
 (pss_one (ps_ret (pe_f c__law_great hr (by first | decide | omega) rfl (pa_cons (pv 1) pa_nil))))
 pss_nil)
 (pss_cons (ps_set (i := 2) sc_law.nd rfl (Or.inl rfl) (pe_f c__law_deeds hr (by first | decide | omega) rfl (pa_cons (pv 1) (pa_cons (pe_f c__law_tables hr (by first | decide | omega) rfl (pa_cons (pv 1) pa_nil)) pa_nil))))
 (pss_cons (ps_set (i := 3) sc_law.nd rfl (Or.inl rfl) (pe_mk' cM hr (by first | decide | omega) rfl (pa_cons (pv 2) pa_nil)))
 (pss_cons (ps_asg (pe_g c__law_told hgd hr (by first | decide | omega) rfl (pa_cons (pv 2) pa_nil)) (pg_tup (n := 4) rfl (pgs_cons (pg_name (i := 4) sc_law.nd rfl (Or.inl rfl)) (pgs_cons (pg_name (i := 5) sc_law.nd rfl (Or.inl rfl)) (pgs_cons (pg_name (i := 6) sc_law.nd rfl (Or.inl rfl)) (pgs_cons (pg_name (i := 7) sc_law.nd rfl (Or.inl rfl)) pgs_nil))))))
 (pss_cons (ps_if (PW.pt (pw_or (pt_not (pt_val (pv 4))) (pw_or1 (PW.pt (pw_and (pt_cmpR op_notN (pv 5) pe_non (nomark _)) (pw_and1 (pt_not (pt_val (pe_callN0 FB (hr.mono (by first | decide | omega)) rfl mB kpB kb_bh pass0 (pk_cons (pv 5) (pk_cons (pv 3) pk_nil)))))))))))
 (pss_one (ps_ret pe_bl))
 pss_nil)
 (pss_cons (ps_if (pt_cmpR op_eq (pe_f c__law_any hr (by first | decide | omega) rfl (pa_cons (pv 1) (pa_cons pe_int pa_nil))) pe_int (nomark _))
 (pss_cons (ps_par (i := 8) (j := 9) rfl sc_law.nd rfl rfl (by decide) rfl rfl (pa_cons (pe_callB call_len_seq rfl T.len PySem.boot_len (pa_cons (pe_ix ix_tup (pe_ix ix_list (pv 2) pe_int (fun _ _ => rfl)) pe_int (fun _ _ => rfl)) pa_nil)) (pa_cons (pe_callTy call_list_of rfl T.list PyProof.Rows.Boot.«list» (pa_cons (pe_ix ix_tup (pe_ix ix_list (pv 2) pe_int (fun _ _ => rfl)) pe_int (fun _ _ => rfl)) pa_nil)) pa_nil)) (by rfl))
 (pss_cons (ps_par (i := 10) (j := 11) rfl sc_law.nd rfl rfl (by decide) rfl rfl (pa_cons (pe_f c__law_any hr (by first | decide | omega) rfl (pa_cons (pv 1) (pa_cons (pv 8) pa_nil))) (pa_cons (pe_f c__law_any hr (by first | decide | omega) rfl (pa_cons (pv 1) (pa_cons (pv 8) pa_nil))) pa_nil)) (by rfl))
 (pss_cons (ps_asg (pe_tup (pa_cons (pe_ix ix_list (pv 9) (pv 11) (fun _ _ => rfl)) (pa_cons (pe_ix ix_list (pv 9) (pv 10) (fun _ _ => rfl)) pa_nil))) (pg_tup (n := 2) rfl (pgs_cons (pg_sub (pv 9) (pv 10) set_list) (pgs_cons (pg_sub (pv 9) (pv 11) set_list) pgs_nil))))
 (pss_one (ps_if (PW.pt (pw_or (pt_not (pt_val (pe_ix ix_tup (pe_g c__law_told hgd hr (by first | decide | omega) rfl (pa_cons (pe_op op_cat (pe_lst (pa_cons (pe_tup (pa_cons (pe_ix ix_tup (pe_ix ix_list (pv 2) pe_int (fun _ _ => rfl)) pe_int (fun _ _ => rfl)) (pa_cons (pe_callTy call_tuple_of rfl T.tuple PyProof.Rows.Boot.«tuple» (pa_cons (pv 9) pa_nil)) pa_nil))) pa_nil)) (pe_slice sl_list (pv 2) (po_some pe_int) po_none)) pa_nil)) pe_int (fun _ _ => rfl)))) (pw_or1 (pt_not (pt_val (pe_ix ix_tup (pe_g c__law_told hgd hr (by first | decide | omega) rfl (pa_cons (pv 2) pa_nil)) pe_int (fun _ _ => rfl)))))))
 (pss_one (ps_ret pe_bl))
 pss_nil)))))
 pss_nil)
 (pss_cons (ps_for PassesOwn.never rfl (pi_list (pe_f c__law_papers hr (by first | decide | omega) rfl (pa_cons (pv 1) (pa_cons (pv 2) (pa_cons (pv 6) (pa_cons (pv 5) pa_nil)))))) (pg_name (i := 12) sc_law.nd rfl (Or.inl rfl))
 (pss_one (ps_if (pt_cmpR op_ne (pe_callB cr_reprB rfl T.repr PyProof.Rows.Boot.«repr» (pa_cons (pe_f c_breach_holds hr (by first | decide | omega) rfl (pa_cons (pv 3) (pa_cons (pv 12) pa_nil))) pa_nil)) (pe_callB cr_reprB rfl T.repr PyProof.Rows.Boot.«repr» (pa_cons (pe_f c__law_is_breach hr (by first | decide | omega) rfl (pa_cons (pv 2) (pa_cons (pv 12) pa_nil))) pa_nil)) (nomark _))
 (pss_one (ps_ret pe_bl))
 pss_nil)))
 (pss_cons (ps_for PassesOwn.never rfl (pi_list (pe_lst (pa_cons pe_non (pa_cons pe_int (pa_cons pe_str (pa_cons (pv 3) (pa_cons (pe_tup pa_nil) (pa_cons (pe_tup (pa_cons (pe_tup pa_nil) (pa_cons (pe_tup pa_nil) (pa_cons pe_int pa_nil)))) (pa_cons (pe_lst (pa_cons (pe_lst pa_nil) (pa_cons (pe_lst pa_nil) (pa_cons pe_non pa_nil)))) (pa_cons (pe_tup (pa_cons pe_non (pa_cons pe_non (pa_cons pe_non pa_nil)))) (pa_cons (pe_tup (pa_cons (pv 3) (pa_cons (pv 3) (pa_cons (pv 3) pa_nil)))) pa_nil))))))))))) (pg_name (i := 12) sc_law.nd rfl (Or.inl rfl))
 (pss_one (ps_if (pt_cmpR op_notBl (pe_f c_breach_holds hr (by first | decide | omega) rfl (pa_cons (pv 3) (pa_cons (pv 12) pa_nil))) pe_bl (nomark _))
 (pss_one (ps_ret pe_bl))
 pss_nil)))
 (pss_cons (ps_if (PW.pt (pw_and (pt_val (pv 7)) (pw_and (pt_cmpR op_le (pe_callB call_len_seq rfl T.len PySem.boot_len (pa_cons (pv 6) pa_nil)) pe_int (nomark _)) (pw_and1 (pt_val (pe_f c__law_is_unbreakable hr (by first | decide | omega) rfl (pa_cons (pv 2) pa_nil)))))))
 (pss_one (ps_ret (pe_cmpR op_eq (pe_f c__law_is_honest hr (by first | decide | omega) rfl (pa_cons (pe_lc (own := [("_law_effect_here", 13), ("_law_row", 14)]) rfl sc_law.nd (pi_list (pv 6)) (blkOk_by (N := sc_lawN) (sc := defScope (topS 68)) (by decide +kernel)) (fun _ _ _ _ _ => (pg_tupC (K := K) (n := 2) rfl rfl (pgs_cons (pg_name (i := 13) sc_law.nd rfl (Or.inl rfl)) (pgs_cons (pg_name (i := 14) sc_law.nd rfl (Or.inl rfl)) pgs_nil)))) (fun _ _ _ _ _ => pts_nil) (fun _ _ _ _ _ => (pv 13))) pa_nil)) (pe_cmpR op_isN (pv 5) pe_non (nomark _)) (nomark _))))
 pss_nil)
 (pss_one (ps_ret pe_bl)))))))))))), ?_⟩
    refine ⟨.ref a, rfl, a, ns, rfl, ha, hl63, fun H1 d b sm1 hd0 hb0 de1 => ?_⟩
    refine ⟨.ref d, rfl, d, b, 12, rfl, by decide, by decide, de1, fun H2 x0 hx0 kp2 de2 => ⟨rfl, _, rfl, ite2 (fun z => ?_) (fun z => ?_)⟩⟩
    · exact ⟨.ref d, rfl, d, b, rfl, de2, tabs_keep hT0 fun c o nl hc => de1.kn kp2 c o nl (sm1 _ _ hc), fun H' => q H'⟩
    refine ⟨.ref d, rfl, .ref d, rfl, d, b, rfl, de2, fun H3 lt xs es n htab halt kp3 de3 e3 hl3 => ?_⟩
    have nlt := de2.new hl3
    refine ⟨d, b, lt, xs, es, rfl, de3, e3, halt, nlt.1, nlt.2, by have := htab.few; omega, fun H4 ld zs ds hds hnd hnm hald kp4 de4 e4 hl4 => ?_⟩
    have nld := de3.new hl4
    have hdsl : ds.length = es.length := by rw [← hds, List.length_map]
    have inE : ∀ q ∈ ds, q.2 ∈ es := fun q hq => by rw [← hds]; exact List.mem_map_of_mem hq
    have hdg : DG n ds := ⟨hnd, fun q hq => htab.ok _ (inE q hq), hnm, htab.lo, by have := htab.hi; omega, by have := htab.few; omega⟩
    have hcc : ∀ q ∈ ds, CC n q.2 := fun q hq => ⟨htab.ok _ (inE q hq), fun e => htab.five e _ (inE q hq)⟩
    have hd1 : 1 ≤ ds.length := by rw [hdsl]; exact htab.one
    have h300 := bf_few htab.lo htab.hi hcc
    have hn5 := htab.hi
    have hld : LD H4 ld ds := ⟨zs, e4, hald⟩
    refine ⟨.ref ld, rfl, fun x dx hx hdx hne => ?_⟩
    have so := same_new (o := HO.own x) hdx
    have sx := same_new (o := HO.ins CM dx []) (H := upd H4 dx (.own x)) (by rw [upd_ne (Ne.symm hne)]; exact hx)
    have smM := so.trans sx
    refine ⟨x, dx, ld, _, ds, n, rfl, upd_same, SqL.of (smM _ _ e4), smM _ _ e4, hald.mono fun _ _ h => h.kt (kt smM), hdg, hd1, fun H5 hk5 hmc => ⟨rfl, ?_⟩⟩
    have sm45 : Same H4 H5 := fun c o hc => hk5 c o (ne_of_none hc hx) (smM _ _ hc)
    have hld5 := hld.sm sm45
    have de5 := de4.same sm45
    obtain ⟨B, hB⟩ : ∃ B, B = allB26 n ds := ⟨_, rfl⟩
    obtain ⟨L, hL⟩ : ∃ L, L = listD n ds := ⟨_, rfl⟩
    refine ⟨.ref ld, rfl, n, ds, ld, rfl, hld5, hdg, hd1, h300, fun H6 tt p dv br xs6 htt hp hal6 hbr hfbr sm6 => ?_⟩
    rw [← hB] at htt
    rw [← hL] at hal6 hfbr
    refine ⟨tt, _, rfl, SqT.of htt, rfl, _, _, rfl, _, _, rfl, _, _, rfl, _, _, rfl, rfl, ?_⟩
    have gL : Grow L (bf n ds 26) := by
      rw [hL]
      unfold listD
      split
      · exact Grow.refl _
      · exact take_grow _ _
    have rowL : ∀ q ∈ L, RowOk ds q.2 := fun q hq => by
      obtain ⟨i, hi⟩ := List.getElem?_of_mem hq
      have hq' := List.mem_of_getElem? (gL.at hi)
      exact ⟨bf_names n ds 26 q hq', Nat.le_trans (len_row n ds 26 q hq') (by decide)⟩
    have rowB : ∀ u, br = some u → RowOk ds u.1 ∧ RowOk ds u.2.1 := fun u hu => by
      rw [hu] at hfbr
      obtain ⟨i, j, e, g, h1, h2, h3, h4, _⟩ := hfbr
      exact ⟨rowL _ (List.mem_of_getElem? h3), rowL _ (List.mem_of_getElem? h4)⟩
    have de6 := de5.same sm6
    have hmc6 := hmc.kn (KN.of sm6)
    have hld6 := hld5.sm sm6
    have key1 : ∀ (D : Ends), (∀ H7, Same H6 H7 → D.nx [some (.ref a), some (.ref d), some (.ref ld), some (.ref x), some (.bl true), some dv, some (.ref p), some (.bl B), none, none, none, none, none, none, none] H7) →
        tIfS (tOr (tNot (tB (tVar 4))) (tAnd (tTest (tOp (fun x y H Q => y = V.non ∧ Q (V.bl !decide (x = V.non)) H) (tVar 5) (tC V.non))) (tNot (tB (tCallN 0 2 (spBH CM) (fun _ z => gsw z) E0 tNil (tCons (tVar 5) (tCons (tVar 3) tNil))))))) (tRet (tC (V.bl false))) tNext D
          [some (.ref a), some (.ref d), some (.ref ld), some (.ref x), some (.bl true), some dv, some (.ref p), some (.bl B), none, none, none, none, none, none, none] H6 := by
      intro D k
      refine ⟨.bl true, rfl, true, rfl, ite2 (fun z => absurd z (by decide)) (fun _ => ?_)⟩
      cases br with
      | none =>
        cases hbr
        exact ⟨.non, rfl, rfl, _, rfl, ite2 (fun z => absurd z (by decide)) (fun _ => k H6 (Same.refl _))⟩
      | some u =>
        obtain ⟨bt, bx, by_, rfl, hb, hbx, hby⟩ := hbr
        obtain ⟨ro1, ro2⟩ := rowB u rfl
        have hdue := due_holds hdg gL hfbr
        refine ⟨.ref bt, rfl, rfl, _, rfl, ite2 (fun _ => ?_) (fun z => absurd (by simp) z)⟩
        refine ⟨.ref bt, rfl, .ref x, rfl, rfl, rfl, n, ds, .ref x, .ref bt, rfl, hmc6, hdg, .inr (.inl ⟨bt, bx, by_, vo u.2.2, _, _, ztO u.2.2, rfl, hb, ro1.cp hdg hbx, ro2.cp hdg hby, ?_, fun H7 sm7 => ?_⟩)⟩
        · cases u.2.2 with
          | none => exact rfl
          | some i => exact rfl
        · rw [hdue]
          exact ⟨true, rfl, ite2 (fun z => absurd z (by decide)) (fun _ => k H7 sm7)⟩
    refine key1 _ (fun H7 sm7 => ?_)
    have de7 := de6.same sm7
    have hld7 := hld6.sm sm7
    have hmc7 := hmc6.kn (KN.of sm7)
    obtain ⟨d0, dr, eds⟩ : ∃ d0 dr, ds = d0 :: dr := by
      cases ds with
      | nil => exact absurd hd1 (by simp)
      | cons d0 dr => exact ⟨d0, dr, rfl⟩
    have hd0m : d0 ∈ ds := by rw [eds]; exact List.mem_cons_self ..
    have z1 : 1 ≤ sizeLine := by decide
    have z2 : 2 ≤ sizeLine := by decide
    have z3 : 3 ≤ sizeLine := by decide
    have key2 : ∀ (D : Ends), (∀ x8 x9 x10 x11 H8, De H8 d b → Kp d b H7 H8 → D.nx [some (.ref a), some (.ref d), some (.ref ld), some (.ref x), some (.bl true), some dv, some (.ref p), some (.bl B), x8, x9, x10, x11, none, none, none] H8) →
        tIfS (tTest (tOp rEq (tCall spAny [] E0 (tCons (tVar 1) (tCons (tC (V.int 3)) tNil))) (tC (V.int 0)))) (tSeq (tPar 8 9 (tCons (tCB (fun xs H_1 Q => ∃ p ys, xs = [V.ref p] ∧ (SqL K H_1 p ys ∨ SqT K H_1 p ys) ∧ Q (V.int ↑ys.length) H_1) (tCons (tOp (rIxT K) (tOp (rIxL K) (tVar 2) (tC (V.int 0))) (tC (V.int 1))) tNil)) (tCons (tCB (fun xs H_1 Q => ∃ p ys, xs = [V.ref p] ∧ (SqL K H_1 p ys ∨ SqT K H_1 p ys) ∧ ∀ (l : Addr), H_1 l = none → Q (V.ref l) (upd H_1 l (HO.lst ys))) (tCons (tOp (rIxT K) (tOp (rIxL K) (tVar 2) (tC (V.int 0))) (tC (V.int 1))) tNil)) tNil))) (tSeq (tPar 10 11 (tCons (tCall spAny [] E0 (tCons (tVar 1) (tCons (tVar 8) tNil))) (tCons (tCall spAny [] E0 (tCons (tVar 1) (tCons (tVar 8) tNil))) tNil))) (tSeq (tAsg (tTup (tCons (tOp (rIxL K) (tVar 9) (tVar 11)) (tCons (tOp (rIxL K) (tVar 9) (tVar 10)) tNil))) (gTup K 2 (gCons (gSub (tVar 9) (tVar 10) rSetL) (gCons (gSub (tVar 9) (tVar 11) rSetL) gNil)))) (tIfS (tOr (tNot (tB (tOp (rIxT K) (tCall spTold [] E0 (tCons (tOp rCat (tLst (tCons (tTup (tCons (tOp (rIxT K) (tOp (rIxL K) (tVar 2) (tC (V.int 0))) (tC (V.int 0))) (tCons (tCB (fun xs H_1 Q => ∃ p ys, xs = [V.ref p] ∧ ((SqL K H_1 p ys ∧ ∀ (l : Addr), H_1 l = none → Q (V.ref l) (upd H_1 l (HO.tup ys))) ∨ SqT K H_1 p ys ∧ Q (V.ref p) H_1)) (tCons (tVar 9) tNil)) tNil))) tNil)) (tSl (rSlL K) (tVar 2) (tPart (tC (V.int 1))) tNoPart)) tNil)) (tC (V.int 0))))) (tNot (tB (tOp (rIxT K) (tCall spTold [] E0 (tCons (tVar 2) tNil)) (tC (V.int 0)))))) (tRet (tC (V.bl false))) tNext)))) tNext
          D [some (.ref a), some (.ref d), some (.ref ld), some (.ref x), some (.bl true), some dv, some (.ref p), some (.bl B), none, none, none, none, none, none, none] H7 := by
      intro D k
      refine ⟨.ref d, rfl, d, b, 3, rfl, by decide, by decide, de7, fun H8 x8 hx8 kp8 de8 => ⟨rfl, _, rfl, ite2 (fun z => ?_) (fun z => k _ _ _ _ H8 de8 kp8)⟩⟩
      obtain ⟨zs7, el7, hal7⟩ := hld7
      obtain ⟨v0, hv0, t0, y0, rfl, g1, yy, rfl, g2⟩ := hal7.at (i := 0) (x := d0) (by rw [eds]; rfl)
      have ok0 := hdg.ok d0 hd0m
      have len0 : (vns d0.2).length = n := by rw [List.length_map, ok0.len]
      have el8 := kp8 _ _ nld.1 nld.2 el7
      have kt8 := de7.kt kp8
      refine ⟨.ref ld, rfl, ld, _, 0, .ref t0, rfl, rfl, SqL.of el8, atI_nat (j := 0) hv0, t0, _, 1, .ref yy, rfl, rfl, SqT.of (kt8 _ _ g1), rfl, yy, _, rfl, .inr (SqT.of (kt8 _ _ g2)), .ref ld, rfl, ld, _, 0, .ref t0, rfl, rfl, SqL.of el8, atI_nat (j := 0) hv0, t0, _, 1, .ref yy, rfl, rfl, SqT.of (kt8 _ _ g1), rfl, yy, _, rfl, .inr (SqT.of (kt8 _ _ g2)), fun li hli => ⟨_, _, rfl, ?_⟩⟩
      rw [len0]
      have sli := same_new (o := HO.lst (vns d0.2)) hli
      have de9 := de8.same sli
      have nli := de8.new hli
      have h2n := htab.lo
      refine ⟨.ref d, rfl, vn n, rfl, d, b, n, rfl, by omega, by omega, de9, fun H10 i hi k10 d10 => ⟨.ref d, rfl, vn n, rfl, d, b, n, rfl, by omega, by omega, d10, fun H11 j hj k11 d11 => ⟨_, _, rfl, ?_⟩⟩⟩
      have kA := k10.trans k11
      have el11 := kA _ _ nli.1 nli.2 (upd_same (H := H8) (a := li) (o := .lst (vns d0.2)))
      have hl0 : d0.2.length = n := ok0.len
      have gi := ap_get (e := d0.2) (x := i) (by rw [hl0]; exact hi)
      have gj := ap_get (e := d0.2) (x := j) (by rw [hl0]; exact hj)
      refine ⟨.ref li, rfl, vn j, rfl, li, _, (j : Int), vn (ap d0.2 j), rfl, rfl, SqL.of el11, atI_nat (by rw [List.getElem?_map, gj]; rfl), .ref li, rfl, vn i, rfl, li, _, (i : Int), vn (ap d0.2 i), rfl, rfl, SqL.of el11, atI_nat (by rw [List.getElem?_map, gi]; rfl), z2, fun tp htp => ?_⟩
      have stp := same_new (o := HO.tup [vn (ap d0.2 j), vn (ap d0.2 i)]) htp
      refine ⟨tp, _, rfl, SqT.of upd_same, rfl, _, _, rfl, .ref li, rfl, vn i, rfl, li, vns d0.2, (i : Int), i, rfl, rfl, stp _ _ el11, ixN_n (by rw [len0]; exact hi), _, _, rfl, .ref li, rfl, vn j, rfl, li, _, (j : Int), j, rfl, rfl, upd_same, ixN_n (by rw [List.length_set, len0]; exact hj), rfl, ?_⟩
      have eswp : ((vns d0.2).set i (vn (ap d0.2 j))).set j (vn (ap d0.2 i)) = vns (swp d0.2 i j) := by
        unfold swp vns
        rw [List.map_set, List.map_set]
      rw [eswp]
      have kS : Kp d b H8 (upd (upd (upd H11 tp (HO.tup [vn (ap d0.2 j), vn (ap d0.2 i)])) li (HO.lst ((vns d0.2).set i (vn (ap d0.2 j))))) li (HO.lst (vns (swp d0.2 i j)))) := fun c o m1 m2 hc => by
        have ne := ne_of_none hc hli
        rw [upd_ne ne, upd_ne ne]
        exact stp _ _ (kA c o m1 m2 (sli _ _ hc))
      have dS : De (upd (upd (upd H11 tp (HO.tup [vn (ap d0.2 j), vn (ap d0.2 i)])) li (HO.lst ((vns d0.2).set i (vn (ap d0.2 j))))) li (HO.lst (vns (swp d0.2 i j)))) d b := ((d11.same stp).upd nli.1 nli.2).upd nli.1 nli.2
      have eS : (upd (upd (upd H11 tp (HO.tup [vn (ap d0.2 j), vn (ap d0.2 i)])) li (HO.lst ((vns d0.2).set i (vn (ap d0.2 j))))) li (HO.lst (vns (swp d0.2 i j)))) li = some (.lst (vns (swp d0.2 i j))) := upd_same
      generalize upd (upd (upd H11 tp (HO.tup [vn (ap d0.2 j), vn (ap d0.2 i)])) li (HO.lst ((vns d0.2).set i (vn (ap d0.2 j))))) li (HO.lst (vns (swp d0.2 i j))) = HS at kS dS eS ⊢
      have elS := kS _ _ nld.1 nld.2 el8
      have ktS := kt8.trans (de8.kt kS)
      refine ⟨.ref ld, rfl, ld, _, 0, .ref t0, rfl, rfl, SqL.of elS, atI_nat (j := 0) hv0, t0, _, 0, .str d0.1, rfl, rfl, SqT.of (ktS _ _ g1), rfl, .ref li, rfl, li, _, rfl, .inl ⟨SqL.of eS, fun tw htw => ⟨z2, fun tx htx => ⟨z1, fun lx hlx => ?_⟩⟩⟩⟩
      have a1 := same_new (o := HO.tup (vns (swp d0.2 i j))) htw
      have a2 := same_new (o := HO.tup [.str d0.1, .ref tw]) htx
      have a3 := same_new (o := HO.lst [V.ref tx]) hlx
      have a13 := a1.trans (a2.trans a3)
      have hzl : zs7.length = ds.length := hal7.1
      refine ⟨.ref ld, rfl, 1, rfl, ld, zs7, rfl, SqL.of (a13 _ _ elS), fun ly hly => ?_⟩
      have a4 := same_new (o := HO.lst (cutV zs7 (some 1) none)) hly
      have ecut := cutV_tail zs7 (by omega)
      refine ⟨lx, ly, _, _, rfl, rfl, a4 _ _ upd_same, upd_same, ?_, fun lw hlw => ?_⟩
      · have h2 : (1000 : Nat) ≤ sizeLine := by decide
        have := hdg.few
        rw [ecut, List.length_drop]
        show 1 + _ ≤ _
        omega
      have a5 := same_new (o := HO.lst ([V.ref tx] ++ cutV zs7 (some 1) none)) hlw
      have a25 := a2.trans (a3.trans (a4.trans a5))
      have a15 := a13.trans (a4.trans a5)
      have cs := cc_swp (hcc d0 hd0m) hi hj
      have hcc' : ∀ q ∈ (d0.1, swp d0.2 i j) :: dr, CC n q.2 := fun q hq => by
        rcases List.mem_cons.mp hq with rfl | hq
        · exact cs
        · exact hcc q (by rw [eds]; exact List.mem_cons_of_mem _ hq)
      have hdg' : DG n ((d0.1, swp d0.2 i j) :: dr) := by
        have e1 : ((d0.1, swp d0.2 i j) :: dr).map (·.1) = ds.map (·.1) := by rw [eds]; rfl
        refine ⟨by rw [e1]; exact hdg.nd, fun q hq => (hcc' q hq).1, fun q hq => ?_, hdg.lo, hdg.hi, by have := hdg.few; rw [eds] at this; exact this⟩
        rcases List.mem_cons.mp hq with rfl | hq
        · exact hdg.nm d0 hd0m
        · exact hdg.nm q (by rw [eds]; exact List.mem_cons_of_mem _ hq)
      have hld' : LD (upd (upd (upd (upd (upd HS tw (.tup (vns (swp d0.2 i j)))) tx (.tup [.str d0.1, .ref tw])) lx (.lst [V.ref tx])) ly (.lst (cutV zs7 (some 1) none))) lw (.lst ([V.ref tx] ++ cutV zs7 (some 1) none))) lw ((d0.1, swp d0.2 i j) :: dr) := by
        have e9 : [V.ref tx] ++ cutV zs7 (some 1) none = V.ref tx :: zs7.drop 1 := by rw [ecut]; rfl
        refine ⟨V.ref tx :: zs7.drop 1, by rw [upd_same, e9], ?_⟩
        refine Al.cons ⟨tx, .ref tw, rfl, (a3.trans (a4.trans a5)) _ _ upd_same, tw, rfl, a25 _ _ upd_same⟩ ?_
        have := (hal7.drop 1).mono fun _ _ h => h.kt (ktS.trans (kt a15))
        rw [eds] at this
        exact this
      refine ⟨n, (d0.1, swp d0.2 i j) :: dr, lw, rfl, hld', hdg', (by show 1 ≤ dr.length + 1; omega), bf_few htab.lo htab.hi hcc', fun HT tt' p' dv' br' xs' htt' _ _ _ _ smT => ?_⟩
      obtain ⟨B', hB'⟩ : ∃ B', B' = allB26 n ((d0.1, swp d0.2 i j) :: dr) := ⟨_, rfl⟩
      rw [← hB'] at htt'
      refine ⟨tt', _, 0, .bl true, rfl, rfl, SqT.of htt', rfl, true, rfl, ite2 (fun z => absurd z (by decide)) (fun _ => ?_)⟩
      have a16 := a15.trans smT
      have eds' := eds
      refine ⟨.ref ld, rfl, n, ds, ld, rfl, ⟨zs7, a16 _ _ elS, hal7.mono fun _ _ h => h.kt (ktS.trans (kt a16))⟩, hdg, hd1, h300, fun HT2 tt2 p2 dv2 br2 xs2 htt2 _ _ _ _ smT2 => ?_⟩
      rw [← hB] at htt2
      refine ⟨tt2, _, 0, .bl true, rfl, rfl, SqT.of htt2, rfl, true, rfl, ite2 (fun z => absurd z (by decide)) (fun _ => ?_)⟩
      have aE := a16.trans smT2
      exact k _ _ _ _ HT2 (dS.same aE) (kp8.trans (kS.trans (Kp.same aE)))
    refine key2 _ (fun x8 x9 x10 x11 H8 de8 kp8 => ?_)
    have kt8 := de7.kt kp8
    have hLl : 1 ≤ L.length ∧ L.length ≤ 300 := by
      have h1 := h300 26
      have h2 := (List.getElem?_eq_some_iff.mp (bf_pos n ds 26)).1
      rw [hL]
      unfold listD
      split
      · exact ⟨h2, h1⟩
      · rw [List.length_take]; omega
    have np : p ≠ d ∧ p ≠ b := by
      obtain ⟨ns', m, e1, e2, _⟩ := de6
      refine ⟨fun z => ?_, fun z => ?_⟩
      · rw [z, e1] at hp
        have ex : [V.ref b, V.int m] = xs6 := by cases hp; rfl
        obtain ⟨_, _, _, _, _, q0, _⟩ := hal6.at' (i := 1) (v := .int m) (by rw [← ex]; rfl)
        cases q0
      · rw [z, e2] at hp
        have ex : vis ns' = xs6 := by cases hp; rfl
        obtain ⟨v, hv, _, _, _, q0, _⟩ := hal6.at (List.getElem?_eq_getElem (show 0 < L.length by omega))
        rw [← ex, List.getElem?_map] at hv
        cases hn : ns'[0]? with
        | none => rw [hn] at hv; cases hv
        | some i0 =>
          rw [hn] at hv
          cases hv
          cases q0
    have hp8 := kp8 _ _ np.1 np.2 (sm7 _ _ hp)
    have hmc8 := hmc7.kn (de7.kn kp8)
    have sm67 := sm7
    obtain ⟨zs7, el7, hal7⟩ := hld7
    have hld8 : LD H8 ld ds := ⟨zs7, kp8 _ _ nld.1 nld.2 el7, hal7.mono fun _ _ h => h.kt kt8⟩
    have hal8 : Al (Prr H8) xs6 L := hal6.mono fun _ _ h => h.kt ((kt sm7).trans kt8)
    have hbr8 : BrR H8 dv br := hbr.kt ((kt sm7).trans kt8)
    have hxl := hal8.1
    refine ⟨.ref d, rfl, .ref ld, rfl, .ref p, rfl, dv, rfl, n, ds, d, b, ld, p, xs6, L, dv, br, rfl, de8, hld8, hdg, hd1, hp8, hal8, np.1, np.2, ?_, by omega, rowL, nld.1, nld.2, hbr8, rowB, fun H9 pp ys hpp hys kp9 de9 => ?_⟩
    · intro e
      rw [e] at hxl
      have : (0 : Nat) = L.length := hxl
      omega
    have hmc9 := hmc8.kn (de8.kn kp9)
    have hld9 : LD H9 ld ds := by
      obtain ⟨zz, q1, q2⟩ := hld8
      exact ⟨zz, kp9 _ _ nld.1 nld.2 q1, q2.mono fun _ _ h => h.kt (de8.kt kp9)⟩
    have hp9 := kp9 _ _ np.1 np.2 hp8
    have hal9 := hal8.mono fun _ _ h => h.kt (de8.kt kp9)
    have hbr9 := hbr8.kt (de8.kt kp9)
    refine ⟨pp, rfl, ⟨_, SqL.of hpp⟩, for_it walk_list (fun i σ H' => ∃ x12, σ = [some (.ref a), some (.ref d), some (.ref ld), some (.ref x), some (.bl true), some dv, some (.ref p), some (.bl B), x8, x9, x10, x11, x12, none, none] ∧ Same H9 H') ⟨_, rfl, Same.refl _⟩ (fun _ _ _ _ h => SqL.of (by obtain ⟨_, _, h⟩ := h; exact h _ _ hpp)) ?_ ?_⟩
    · rintro i v σ HA HB' hi ⟨x12, rfl, smA⟩ ⟨rfl, hv⟩
      have hmcA := hmc9.kn (KN.of smA)
      have hpp' := (hys v (List.mem_of_getElem? hv)).kx (kx smA)
      have hldA := hld9.sm smA
      rcases hpp' with ⟨dd, hr1, hr2⟩ | ⟨a1, y1, y2, y3, X, Y, Z, rfl, g1, hX, hY, hZ⟩
      · refine ⟨.ref x, rfl, v, rfl, n, ds, .ref x, v, rfl, hmcA, hdg, .inl ⟨dd, hr1, hr2, _, rfl, .ref ld, rfl, v, rfl, n, ds, ld, v, rfl, hldA, hdg, hd1, .inl ⟨dd, hr1, hr2, fun Hg smg => ⟨_, rfl, rfl, _, rfl, ite2 (fun z => absurd z (by simp)) (fun z => ⟨_, rfl, smA.trans smg⟩)⟩⟩⟩⟩
      · refine ⟨.ref x, rfl, .ref a1, rfl, n, ds, .ref x, .ref a1, rfl, hmcA, hdg, .inr (.inl ⟨a1, y1, y2, y3, X, Y, Z, rfl, g1, hX, hY, hZ, fun Hf smf => ⟨_, rfl, .ref ld, rfl, .ref a1, rfl, n, ds, ld, .ref a1, rfl, hldA.sm smf, hdg, hd1, .inr ⟨a1, y1, y2, y3, X, Y, Z, rfl, smf _ _ g1, hX.kx (kx smf), hY.kx (kx smf), hZ.kx (kx smf), fun Hg smg => ⟨_, rfl, rfl, _, rfl, ite2 (fun z => absurd z (by simp)) (fun z => ⟨_, rfl, (smA.trans smf).trans smg⟩)⟩⟩⟩⟩)⟩
    · rintro σ HA ⟨x12, rfl, smA⟩
      have hmcA := hmc9.kn (KN.of smA)
      have hldA := hld9.sm smA
      have hpA := smA _ _ hp9
      have halA := hal9.mono fun _ _ h => h.kt (kt smA)
      have hbrA := hbr9.kt (kt smA)
      refine ⟨.ref x, rfl, Nat.zero_le _, fun c1 h1 => ⟨Nat.zero_le _, fun c2 h2 => ⟨Nat.zero_le _, fun c3 h3 => ⟨z3, fun c4 h4 => ⟨Nat.zero_le _, fun c5 h5 => ⟨Nat.zero_le _, fun c6 h6 => ⟨z3, fun c7 h7 => ⟨z3, fun c8 h8 => ⟨.ref x, rfl, .ref x, rfl, .ref x, rfl, z3, fun c9 h9 => ⟨by show 9 ≤ sizeLine; decide, fun lq hlq => ?_⟩⟩⟩⟩⟩⟩⟩⟩⟩⟩
      obtain ⟨HW, eHW, slq, elq⟩ := nxt (HO.lst [V.non, V.int 3, V.str (Str.ofString "abc"), .ref x, .ref c1, .ref c4, .ref c7, .ref c8, .ref c9]) hlq
      rw [eHW]
      have s1 := same_new (o := HO.tup []) h1
      have s2 := same_new (o := HO.tup []) h2
      have s3 := same_new (o := HO.tup []) h3
      have s4 := same_new (o := HO.tup [.ref c2, .ref c3, V.int 0]) h4
      have s5 := same_new (o := HO.lst []) h5
      have s6 := same_new (o := HO.lst []) h6
      have s7 := same_new (o := HO.lst [.ref c5, .ref c6, V.non]) h7
      have s8 := same_new (o := HO.tup [V.non, V.non, V.non]) h8
      have s9 := same_new (o := HO.tup [.ref x, .ref x, V.ref x]) h9
      have r7 := s8.trans (s9.trans slq)
      have r4 := s5.trans (s6.trans (s7.trans r7))
      have r3 := s4.trans r4
      have r2 := s3.trans r3
      have r1 := s2.trans r2
      have rA := s1.trans r1
      have hmcW := hmcA.kn (KN.of rA)
      have nine : ∀ v ∈ [V.non, V.int 3, V.str (Str.ofString "abc"), .ref x, .ref c1, .ref c4, .ref c7, .ref c8, .ref c9], Nn CM HW n ds v := by
        intro v hv
        rcases List.mem_cons.mp hv with rfl | hv
        · exact .inl ⟨_, .non, .inl rfl⟩
        rcases List.mem_cons.mp hv with rfl | hv
        · exact .inl ⟨_, .int 3, .inl rfl⟩
        rcases List.mem_cons.mp hv with rfl | hv
        · exact .inl ⟨_, .str _, .inl rfl⟩
        rcases List.mem_cons.mp hv with rfl | hv
        · exact .inl ⟨_, hmcW.rp, .inl rfl⟩
        rcases List.mem_cons.mp hv with rfl | hv
        · exact .inl ⟨_, .tup (r1 _ _ upd_same) .nil, .inr ⟨_, rfl, by simp, by simp⟩⟩
        rcases List.mem_cons.mp hv with rfl | hv
        · have e0 : ∀ c, HW c = some (.tup []) → CpR CM HW ds (.ref c) (.row []) := fun c hc => ⟨⟨c, [], rfl, hc, Al.nil, fun p hp => absurd hp (by simp), by decide⟩, fun r k hm => absurd hm (by simp)⟩
          refine .inr (.inl ⟨c4, .ref c2, .ref c3, .int 0, .row [], .row [], .int 0, rfl, r4 _ _ upd_same, e0 c2 (r2 _ _ upd_same), e0 c3 (r3 _ _ upd_same), rfl, ?_⟩)
          have ek : knc n ds (.row []) = some (idE n) := rfl
          unfold isBr
          rw [ek]
          show jud n (idE n) (idE n) (.int 0) = false
          unfold jud
          rw [decide_eq_true rfl]
          rfl
        rcases List.mem_cons.mp hv with rfl | hv
        · exact .inl ⟨_, .lst (r7 _ _ upd_same), .inl rfl⟩
        rcases List.mem_cons.mp hv with rfl | hv
        · exact .inr (.inr ⟨c8, _, _, _, .oth, rfl, (s9.trans slq) _ _ upd_same, ⟨_, .non, rfl⟩, ⟨_, .non, rfl⟩⟩)
        rw [List.mem_singleton.mp hv]
        exact .inr (.inr ⟨c9, _, _, _, .oth, rfl, slq _ _ upd_same, ⟨_, hmcW.rp, rfl⟩, ⟨_, hmcW.rp, rfl⟩⟩)
      refine ⟨lq, rfl, ⟨_, SqL.of elq⟩, for_it walk_list (fun i σ H' => ∃ x12, σ = [some (.ref a), some (.ref d), some (.ref ld), some (.ref x), some (.bl true), some dv, some (.ref p), some (.bl B), x8, x9, x10, x11, x12, none, none] ∧ Same HW H') ⟨_, rfl, Same.refl _⟩ (fun _ _ _ _ h => SqL.of (by obtain ⟨_, _, h⟩ := h; exact h _ _ elq)) ?_ ?_⟩
      · rintro i v σ HB' HC hi ⟨x12, rfl, smB⟩ ⟨rfl, hv⟩
        have hmcB := hmcW.kn (KN.of smB)
        rcases (nine v (List.mem_of_getElem? hv)).kx (kx smB) with ⟨dd, hr1, hr2⟩ | ⟨a1, y1, y2, y3, X, Y, Z, rfl, g1, hX, hY, hZ, hf⟩ | ⟨a1, y1, y2, y3, Y, rfl, g1, hX, hY⟩
        · exact ⟨.ref x, rfl, v, rfl, n, ds, .ref x, v, rfl, hmcB, hdg, .inl ⟨dd, hr1, hr2, false, false, rfl, rfl, _, rfl, ite2 (fun z => absurd z (by decide)) (fun z => ⟨_, rfl, smB⟩)⟩⟩
        · refine ⟨.ref x, rfl, .ref a1, rfl, n, ds, .ref x, .ref a1, rfl, hmcB, hdg, .inr (.inl ⟨a1, y1, y2, y3, X, Y, Z, rfl, g1, hX, hY, hZ, fun Hf smf => ?_⟩)⟩
          rw [hf]
          exact ⟨false, false, rfl, rfl, _, rfl, ite2 (fun z => absurd z (by decide)) (fun z => ⟨_, rfl, smB.trans smf⟩)⟩
        · exact ⟨.ref x, rfl, .ref a1, rfl, n, ds, .ref x, .ref a1, rfl, hmcB, hdg, .inr (.inr ⟨a1, y1, y2, y3, Y, rfl, g1, hX, hY, fun Hf smf => ⟨false, false, rfl, rfl, _, rfl, ite2 (fun z => absurd z (by decide)) (fun z => ⟨_, rfl, smB.trans smf⟩)⟩⟩)⟩
      · rintro σ HB' ⟨x12', rfl, smB⟩
        have smAB := rA.trans smB
        have hpB := smAB _ _ hpA
        have halB := halA.mono fun _ _ h => h.kt (kt smAB)
        have hbrB := hbrA.kt (kt smAB)
        have hldB := hldA.sm smAB
        refine ⟨.bl B, rfl, B, rfl, ite2 (fun zB => ?_) (fun _ => q _)⟩
        refine ⟨.ref p, rfl, p, xs6, rfl, .inl (SqL.of hpB), _, 26, rfl, rfl, _, rfl, ite2 (fun zl => ?_) (fun _ => q _)⟩
        refine ⟨.ref ld, rfl, n, ds, ld, rfl, hldB, hdg, hd1, fun HU bU hU smU => ⟨bU, rfl, ite2 (fun zU => ?_) (fun _ => q _)⟩⟩
        have hpU := smU _ _ hpB
        have halU := halB.mono fun _ _ h => h.kt (kt smU)
        have hB1 : allB26 n ds = true := hB.symm.trans zB
        have eL : L = bf n ds 26 := by
          rw [hL]
          unfold listD
          rw [if_pos (c := allB26 n ds = true) hB1]
        have hfb : FBr (bf n ds 26) br := by rw [← eL]; exact hfbr
        have hon := honest_iff hdg hn5 hB1 (hU zU) hfb
        refine ⟨.ref p, rfl, p, rfl, ⟨_, SqL.of hpU⟩, fun Dl hD => lc_it walk_list (fun i H' => Same HU H' ∧ ∃ vs, H' Dl = some (.lst vs) ∧ Al (Ef HU) vs (fsts (L.take i))) ⟨same_new hD, [], upd_same, Al.nil⟩ (fun _ _ _ p => SqL.of (p.1 _ _ hpU)) ?_ ?_⟩
        · rintro i v H30 H31 hi ⟨smD, vs, eD, hvs⟩ ⟨rfl, hv⟩
          obtain ⟨pr, hpr, t9, ex, ry, rfl, g1, g2, g3⟩ := halU.at' hv
          have hvl := hvs.1
          refine ⟨t9, _, rfl, SqT.of (smD _ _ g1), rfl, _, _, rfl, _, _, rfl, rfl, rfl, ex, rfl, vs, eD, ?_, same_at smD hD, vs ++ [ex], upd_same, ?_⟩
          · rw [hvl, len_fsts, List.length_take]
            exact szl (by omega)
          · rw [List.take_add_one, hpr]
            show Al (Ef HU) (vs ++ [ex]) (fsts (L.take i ++ [pr]))
            rw [show fsts (L.take i ++ [pr]) = fsts (L.take i) ++ [pr.1] from List.map_append]
            exact al_append hvs (Al.cons g2 Al.nil)
        · rintro H30 ⟨smD, vs, eD, hvs⟩
          have hvs' : Al (Ef H30) vs (fsts L) := by
            rw [halU.1, List.take_length] at hvs
            exact hvs.mono fun _ _ h => h.kt (kt smD)
          refine ⟨n, Dl, vs, fsts L, rfl, eD, hvs', fun e he => ?_, by omega, fun H40 bH hbH smH => ⟨dv, rfl, rfl, rfl, ?_⟩⟩
          · rw [eL] at he
            obtain ⟨qq, hqq, rfl⟩ := List.mem_map.mp he
            exact bf_ok hdg 26 qq hqq
          rw [eL] at hbH
          have hfin : decide (V.bl bH = V.bl (decide (dv = V.non))) = true := by
            refine decide_eq_true (congrArg V.bl ?_)
            rw [Bool.eq_iff_iff, hbH, hon, decide_eq_true_eq]
            cases br with
            | none => exact ⟨fun _ => hbr, fun _ => rfl⟩
            | some u =>
              obtain ⟨a9, _, _, e9, _⟩ := hbr
              rw [e9]
              exact ⟨fun z => (by cases z), fun z => (by cases z)⟩
          rw [hfin]
          exact q _
end
end EO
end
section
set_option Elab.async false
set_option linter.all false
set_option maxRecDepth 100000
set_option maxHeartbeats 1000000
/-! the end: a law that is called where nothing is guarded, with one table of code objects -/
namespace EO
open PySem PySem.Spec PyProof.Rows L2
/-- where the call begins: the table, and the script where it is none of the module's objects -/
def seed (K : PySem.W.Frag) (PT a : Addr) (o : Obj) (xs : List V) : Hp := fun b =>
  if b = PT then some (.tbl #[]) else if b = a ∧ (K.lookup a).isNone = true then some (.frz o (.lst xs)) else none
section
variable {K : PySem.W.Frag} {PT a b : Addr} {o : Obj} {xs : List V} {u : HO}
theorem seed_P : seed K PT a o xs PT = some (.tbl #[]) := if_pos rfl
theorem seed_a (h : a ≠ PT) (n : K.lookup a = none) : seed K PT a o xs a = some (.frz o (.lst xs)) := by
  unfold seed
  rw [if_neg h, if_pos ⟨rfl, by rw [n]; rfl⟩]
theorem seed_is (h : seed K PT a o xs b = some u) : (b = PT ∧ u = .tbl #[]) ∨ (b = a ∧ K.lookup b = none ∧ u = .frz o (.lst xs)) := by
  unfold seed at h
  split at h
  · rename_i e
    exact .inl ⟨e, (Option.some.inj h).symm⟩
  · split at h
    · rename_i e
      refine .inr ⟨e.1, ?_, (Option.some.inj h).symm⟩
      rw [e.1]
      exact Option.isNone_iff_eq_none.mp e.2
    · cases h
end
/-- the one row of facts that the end asks -/
structure Asks (P : Program) (w : World) (K : PySem.W.Frag) (mg : Str → Option Value) (h : Heap) (k n : Nat) (x : Str) (cG PT : Addr) (sp : Sp) : Prop where
  tab : h.get? PT = some { cls := .none, data := .fields #[] }
  out : K.lookup PT = none
  code : PySem.W.CodeHd h cG PT
  told : ∀ (H : Hp) (a : Addr) (ns : List Int), ns.length ≤ n → H PT = some (.tbl #[]) → SqL K H a (ns.map V.int) → sp [.ref a] H (fun v _ => v = .bl true) fun _ _ _ => False
  fn : ∀ base : Heap, K.In base → base.Ns mainGlobals mg → LamX.TabB base mg cG PT → FnG P w K mg base k x sp
theorem walk_ofG {l : PySem.W.OpenLaw} {n k : Nat} {q : Program} {loose : List Str} {XP : (Str → Option Value) → Heap → Prop} {YP : World → Heap → Prop} {d : DefRec} {K : Params → PySem.W.Frag}
    (hn : l.most = some n) (hz : n ≤ sizeLine) (hdf : d.params.defaults = []) (hr : Room k callerA) (hY : ∀ (w : World) (h : Heap), YP w h → (K w.params).In h)
    (F : ∀ (w : World) (mg : Str → Option Value) (h : Heap), YP w h → (K w.params).In h → h.Ns mainGlobals mg → ∃ cG PT sp, Asks l.prog w (K w.params) mg h k n d.name cG PT sp) :
    PySem.W.WalkO q loose XP YP l.row.toRowW d [] (fun f vs => PySem.call f vs) := by
  refine Att.attach_callB hn hdf ?_
  intro w s0 s1 mg mb fa ob pm cd doc a vs ns G Y hob hfd hcr hmg hlist hints hfew hbits hgens
  have kin := hY w _ Y
  obtain ⟨cG, PT, sp, T⟩ := F w mg _ Y kin G.T.g
  generalize hK : K w.params = KK at kin T
  have notP : a ≠ PT := fun z => by
    have t := T.tab
    rw [← z, hlist] at t
    cases t
  have few : vs.length ≤ sizeLine := by rw [hints.length]; exact Nat.le_trans hfew hz
  obtain ⟨H, hH⟩ : ∃ H, H = seed KK PT a { cls := .type "list", data := .seq vs.toArray } (ns.map V.int) := ⟨_, rfl⟩
  have cases_H : ∀ {b u}, H b = some u → (b = PT ∧ u = .tbl #[]) ∨ (b = a ∧ KK.lookup b = none ∧ u = .frz { cls := .type "list", data := .seq vs.toArray } (.lst (ns.map V.int))) := fun {b u} e => by
    rw [hH] at e
    exact seed_is e
  have atP : H PT = some (.tbl #[]) := by rw [hH]; exact seed_P
  have good : HOk l.prog w H s1.heap := fun b u e => by
    rcases cases_H e with ⟨rfl, rfl⟩ | ⟨rfl, _, rfl⟩
    · exact T.tab
    · exact ⟨hlist, by rw [List.length_map]; exact Nat.le_trans hfew hz, vs, _, vals_ints hints, hlist⟩
  have script : SqL KK H a (ns.map V.int) := by
    cases e : KK.lookup a with
    | none => exact .inl (.inr ⟨{ cls := .type "list", data := .seq vs.toArray }, by rw [hH]; exact seed_a notP e⟩)
    | some oa =>
      obtain rfl := Option.some.inj (hlist.symm.trans (kin _ _ e))
      exact .inr ⟨_, vs.toArray, _, e, rfl, rfl, rfl, by rw [List.size_toArray]; exact few, by simpa using vals_ints hints⟩
  have shown : ∀ {b o}, s1.heap.get? b = some o → o.data ≠ .fields #[] → (∀ xs m, o.data ≠ .seq xs m) → (hidT s1.heap H).get? b = some o := fun {b o} e n1 n2 => by
    refine hidT_get e ?_
    cases z : H b with
    | none => rfl
    | some u =>
      rcases cases_H z with ⟨rfl, _⟩ | ⟨rfl, _⟩
      · exact absurd (congrArg Obj.data (Option.some.inj (e.symm.trans T.tab))) n1
      · exact absurd (congrArg Obj.data (Option.some.inj (e.symm.trans hlist))) (n2 _ _)
  have names : ∀ {b m}, s1.heap.Ns b m → (hidT s1.heap H).Ns b m := fun {b m} x => by
    obtain ⟨o, es, ep, e, hd, r⟩ := x
    exact ⟨o, es, ep, shown e (by rw [hd]; exact nofun) (by rw [hd]; exact nofun), hd, r⟩
  have kinB : KK.In (hidT s1.heap H) := fun b o e => hidT_get (kin b o e) (by
    cases z : H b with
    | none => rfl
    | some u =>
      rcases cases_H z with ⟨rfl, _⟩ | ⟨_, n1, _⟩
      · rw [T.out] at e
        cases e
      · rw [n1] at e
        cases e)
  obtain ⟨oc, us, file, tf, flags, tg, inF, text, tt, c1, c2, c3, c4, crest⟩ := T.code
  have codeB : PySem.W.CodeHd (hidT s1.heap H) cG PT :=
    ⟨oc, us, file, tf, flags, tg, inF, text, tt, shown c1 (by rw [c3]; exact fun z => by cases z; cases c4) (by rw [c3]; exact nofun), c2, c3, c4, crest⟩
  obtain ⟨bm, obm, b1, b2, b3, b4, b5, b6⟩ := G.T.bmain
  have tabB : LamX.TabB (hidT s1.heap H) mg cG PT := by
    refine ⟨codeB, ⟨bm, obm, b1, b2, fun z => ?_, fun z => ?_, shown b3 (by rw [b6]; exact nofun) (by rw [b6]; exact nofun), b4, b5, b6⟩, fun z => ?_⟩
    · obtain ⟨og, es, ep, g1, g2, _⟩ := G.T.g
      rw [← z, b3] at g1
      cases g1
      rw [b6] at g2
      cases g2
    · have t := T.tab
      rw [← z, b3] at t
      cases t
      cases b6
    · obtain ⟨og, es, ep, g1, g2, _⟩ := G.T.g
      rw [z, T.tab] at g1
      cases g1
      cases g2
  obtain ⟨f, fd, ps, one, run, hf, _, binds⟩ := (T.fn _ kinB (names G.T.g) tabB).ex
  obtain rfl : fa = f := by
    have z := hmg.symm.trans hf
    cases z
    rfl
  have asked := T.told H a ns hfew atP script
  have lone := one _ _ _ _ asked
  have bind1 := binds s1 [.ref a] kin (by simpa using lone)
  rw [List.append_nil] at bind1
  obtain ⟨mc, lim1, lim2⟩ := G.T.nolimit
  have env : Env0 l.prog w KK mg (hidT s1.heap H) callerA [] s1 H :=
    ⟨rfl, ⟨kinB, names G.T.g, ⟨mb, names G.T.b, G.T.builtins⟩, ⟨mc, names lim1, lim2⟩⟩, fun b o e => of_hidT e, Nat.le_of_eq (hidT_size _ _), trivial, fun b hb => absurd (show b ∈ ([] : List Addr) from hb) (by simp), good, .of_eq hgens⟩
  refine codeAny_mono (run callerA [] s1 H ⟨[.ref a], []⟩ [.ref a] [.ref a] _ _ rfl hr env bind1 (.cons rfl .nil) asked) fun r s2 back => ?_
  match r, back with
  | .error _, back => exact False.elim back
  | .ok (.ret u), back =>
    obtain ⟨v, H2, os, bare, un, good2, rv, rfl⟩ := back
    obtain rfl : u = Value.bool true := rv
    have stays : ∀ b o, b ≠ PT → s1.heap.get? b = some o → s2.heap.get? b = some o := fun b o nb e => by
      cases z : H b with
      | none => exact un.keep b o e z (fun hb => absurd (show b ∈ ([] : List Addr) from hb) (by simp)) (by simp)
      | some u =>
        rcases cases_H z with ⟨e1, _⟩ | ⟨rfl, _, rfl⟩
        · exact absurd e1 nb
        · have z2 := good2 _ _ (un.frzs _ _ _ z)
          rw [hlist] at e
          cases e
          exact z2.1
    obtain ⟨more, grown⟩ := un.tbls PT #[] atP
    have grown2 := good2 _ _ grown
    refine ⟨rfl, ⟨fun b o e => ?_, fun b o e => ?_⟩, os, bare⟩
    · by_cases hb : b = PT
      · subst hb
        obtain rfl := Option.some.inj (T.tab.symm.trans e)
        exact .inr (.inl ⟨⟨cG, oc, us, c1, c2, c3, c4⟩, rfl, #[], more, rfl, grown2⟩)
      · exact .inl (stays b o hb e)
    · by_cases hb : b = PT
      · subst hb
        exact ⟨_, grown2⟩
      · exact ⟨o, stays b o hb e⟩
end EO
end
section
set_option Elab.async false
set_option linter.all false
set_option maxRecDepth 100000
set_option maxHeartbeats 1000000
/-! the exceptions' facts; all defs joined -/
namespace EO
open PySem PySem.Spec PyProof.Rows L2
theorem new_S (CO : Addr) : PySem.EOX.XNew "Exception" "Exception.__new__" [.ref CO, .type "Exception", .type "BaseException", .type "object"] :=
  ⟨⟨_, _, PySem.F.excBase_Exception⟩, PySem.EOX.xc (by decide +kernel), PySem.EOX.xc (by decide +kernel), PySem.EOX.xc (by decide +kernel)⟩
theorem new_N : PySem.EOX.XNew "LookupError" "LookupError.__new__" [.type "KeyError", .type "LookupError", .type "Exception", .type "BaseException", .type "object"] :=
  ⟨⟨_, _, PySem.F.excBase_LookupError⟩, by decide +kernel, by decide +kernel, by decide +kernel⟩
theorem pass_S (C CO : Addr) (s : Value) : refuseLoop s "__setattr__" [.ref C, .ref CO, .type "Exception", .type "BaseException", .type "object"] = pure () := by
  rw [refuseLoop_ref, refuseLoop_ref]
  exact PySem.F.store_Exception.passes s
theorem pass_N0 (s : Value) : refuseLoop s "__setattr__" [.type "KeyError", .type "LookupError", .type "Exception", .type "BaseException", .type "object"] = pure () := by
  kernel_rfl
theorem pass_N (C : Addr) (s : Value) : refuseLoop s "__setattr__" [.ref C, .type "KeyError", .type "LookupError", .type "Exception", .type "BaseException", .type "object"] = pure () := by
  rw [refuseLoop_ref]
  exact pass_N0 s
section
variable {P : Program} {w : World} {K : PySem.W.Frag} {mg : Str → Option Value} {base : Heap} {CM CN CS : Addr}
theorem xcls_S {C CO fI cda cc N : Addr} {n1 q1 : Str} {bs sub : List Value} {sn : List Str} {ab : Bool} {col : Option Bool} {dd : Option Addr} {k0 k1 k2 k3 k5 : Option Value} {kV doc pm ct oc ccl cl : Value} {an od cdd cld : Option Addr} {osl ccs csl : Array (Option Value)} {vs : Array Value} {file : Str} {tf : Tok}
    (x : K.lookup C = some (excClassObj n1 q1 C N bs [.ref CO, .type "Exception", .type "BaseException", .type "object"] true sn sub ab col dd k0 k1 k2 k3 k5 "Exception.__new__"))
    (mo : PySem.W.mroIn K C (.type "object") = some true) (al : PySem.W.alongIn K "__init__" [.ref CO, .type "Exception", .type "BaseException", .type "object"] = some (some (.builtin "Exception.__init__"))) (sb : PySem.W.subIn K (.ref C) (.type "Exception") = some true)
    (lk : K.lookup fI = some ⟨oc, od, .func (PySem.W.ksFn "__init__" "InvalidSize.__init__" (defArgs (inClass (topS 4) 0)) (defBody (inClass (topS 4) 0)) (defScope (inClass (topS 4) 0)) .none kV doc pm an (.ref cda) ct cc), osl⟩)
    (cd : PySem.W.codeIn K (.ref cda) "InvalidSize.__init__" = true) (lc : K.lookup cda = some ⟨ccl, cdd, .fields vs, ccs⟩) (hv : vs[2]? = some (.str file tf)) (hf : ((P.main.file : Str) == file) = true)
    (lcc : K.lookup cc = some ⟨cl, cld, .cell (some (.ref C)), csl⟩) (top : (P.main.scope.names.lookup ("super" : Str)).isSome = false) (noF : PySem.W.findIn K (.ref C) "word" = some none) (sa : PySem.W.findIn K (.ref C) "__setattr__" = some (some (.builtin "object.__setattr__")))
    (iC : PySem.W.findIn K (.ref C) "__init__" = some (some (.ref fI))) (tI : PySem.W.typeIn K (.ref fI) = some (.type "function")) (opq : PySem.W.nsIn K cStatics "thirdparty.any" = some none) (exC : PySem.W.subIn K (.ref C) (.type "BaseException") = some true)
    (tyC : PySem.W.typeIn K (.ref C) = some (.type "type")) (kC : PySem.W.keepIn K (.ref C) = true) (mc : PySem.W.mroIn K C (.ref C) = some true) : PySem.EOX.XCls K P C fI "word" "self" "word" "invalid size" where
  ex := ⟨_, _, _, _, _, _, _, _, _, _, _, _, _, _, _, _, _, _, _, x, new_S _, PySem.EOX.xini_Exception, pass_S _ _, mo, al, sb⟩
  body := ⟨_, _, _, _, _, _, _, _, _, _, _, _, _, _, _, _, _, _, _, _, _, _, _, _, _, _, ⟨"", none, default⟩, _, _, _, _, _, _, _, _, _, lk, cd, rfl, rfl, lc, hv, hf, lcc, fun us hl => match us, hl with | [_, _], _ => rfl, rfl, rfl, rfl, by decide +kernel, by decide +kernel, by decide +kernel, by decide +kernel, by decide +kernel, ⟨_, fun _ => rfl⟩, fun _ => rfl, fun _ => rfl⟩
  ne := by decide
  da := by decide
  ds := by decide
  top := top
  noF := noF
  sa := sa
  iC := iC
  tI := tI
  opq := opq
  exC := exC
  tyC := tyC
  kC := kC
  mroC := mc
theorem xcls_N {C fI cda cc N : Addr} {n1 q1 : Str} {bs sub : List Value} {sn : List Str} {ab : Bool} {col : Option Bool} {dd : Option Addr} {k0 k1 k2 k3 k5 : Option Value} {kV doc pm ct oc ccl cl : Value} {an od cdd cld : Option Addr} {osl ccs csl : Array (Option Value)} {vs : Array Value} {file : Str} {tf : Tok}
    (x : K.lookup C = some (excClassObj n1 q1 C N bs [.type "KeyError", .type "LookupError", .type "Exception", .type "BaseException", .type "object"] true sn sub ab col dd k0 k1 k2 k3 k5 "LookupError.__new__"))
    (mo : PySem.W.mroIn K C (.type "object") = some true) (al : PySem.W.alongIn K "__init__" [.type "KeyError", .type "LookupError", .type "Exception", .type "BaseException", .type "object"] = some (some (.builtin "KeyError.__init__"))) (sb : PySem.W.subIn K (.ref C) (.type "KeyError") = some true)
    (lk : K.lookup fI = some ⟨oc, od, .func (PySem.W.ksFn "__init__" "NoName.__init__" (defArgs (inClass (topS 5) 0)) (defBody (inClass (topS 5) 0)) (defScope (inClass (topS 5) 0)) .none kV doc pm an (.ref cda) ct cc), osl⟩)
    (cd : PySem.W.codeIn K (.ref cda) "NoName.__init__" = true) (lc : K.lookup cda = some ⟨ccl, cdd, .fields vs, ccs⟩) (hv : vs[2]? = some (.str file tf)) (hf : ((P.main.file : Str) == file) = true)
    (lcc : K.lookup cc = some ⟨cl, cld, .cell (some (.ref C)), csl⟩) (top : (P.main.scope.names.lookup ("super" : Str)).isSome = false) (noF : PySem.W.findIn K (.ref C) "name" = some none) (sa : PySem.W.findIn K (.ref C) "__setattr__" = some (some (.builtin "object.__setattr__")))
    (iC : PySem.W.findIn K (.ref C) "__init__" = some (some (.ref fI))) (tI : PySem.W.typeIn K (.ref fI) = some (.type "function")) (opq : PySem.W.nsIn K cStatics "thirdparty.any" = some none) (exC : PySem.W.subIn K (.ref C) (.type "BaseException") = some true)
    (tyC : PySem.W.typeIn K (.ref C) = some (.type "type")) (kC : PySem.W.keepIn K (.ref C) = true) (mc : PySem.W.mroIn K C (.ref C) = some true) : PySem.EOX.XCls K P C fI "name" "self" "name" "no such name" where
  ex := ⟨_, _, _, _, _, _, _, _, _, _, _, _, _, _, _, _, _, _, _, x, new_N, PySem.EOX.xini_KeyError, pass_N _, mo, al, sb⟩
  body := ⟨_, _, _, _, _, _, _, _, _, _, _, _, _, _, _, _, _, _, _, _, _, _, _, _, _, _, ⟨"", none, default⟩, _, _, _, _, _, _, _, _, _, lk, cd, rfl, rfl, lc, hv, hf, lcc, fun us hl => match us, hl with | [_, _], _ => rfl, rfl, rfl, rfl, by decide +kernel, by decide +kernel, by decide +kernel, by decide +kernel, by decide +kernel, ⟨_, fun _ => rfl⟩, fun _ => rfl, fun _ => rfl⟩
  ne := by decide
  da := by decide
  ds := by decide
  top := top
  noF := noF
  sa := sa
  iC := iC
  tI := tI
  opq := opq
  exC := exC
  tyC := tyC
  kC := kC
  mroC := mc
end
end EO
end
section
set_option Elab.async false
set_option linter.all false
set_option maxRecDepth 100000
set_option maxHeartbeats 1000000
/-! all defs joined -/
namespace EO
open PySem PySem.Spec PyProof.Rows L2
section
variable {P : Program} {w : World} {K : PySem.W.Frag} {mg : Str → Option Value} {base : Heap} {CM CN CS : Addr}
theorem no_first_stranger (D : Dfn K mg "first_stranger" (topS 26)) : Fn P w K mg base 1 "first_stranger" (fun vs H Q E => False ∧ spStr False vs H Q E) := by
  refine fn_by D sc_first_stranger (fun _ _ _ _ _ _ us hl => match us, hl with | [_, _], _ => rfl) (fun vs H Q E h => absurd h.1 id) (fun f cdv A outer s H vs Q E hr h => absurd h.1 id)
theorem no_made_by (D : Dfn K mg "made_by" (topS 33)) : Fn P w K mg base 1 "made_by" (fun vs H Q E => False ∧ spMade mg False vs H Q E) := by
  refine fn_by D sc_made_by (fun _ _ _ _ _ _ us hl => match us, hl with | [_, _, _, _], _ => rfl) (fun vs H Q E h => absurd h.1 id) (fun f cdv A outer s H vs Q E hr h => absurd h.1 id)
theorem no__law_effect (D : Dfn K mg "_law_effect" (topS 54)) : Fn P w K mg base 1 "_law_effect" (fun vs H Q E => False ∧ spLE False vs H Q E) := by
  refine fn_by D sc__law_effect (fun _ _ _ _ _ _ us hl => match us, hl with | [_, _], _ => rfl) (fun vs H Q E h => absurd h.1 id) (fun f cdv A outer s H vs Q E hr h => absurd h.1 id)
/-- the name of the one lambda -/
def lamN : Str := (Str.ofString "_law_great" ++ Str.ofString ".<locals>.") ++ Str.ofString "<lambda>"
/-- what the written part says of the defs -/
structure Defs (K : PySem.W.Frag) (mg : Str → Option Value) (CM cG : Addr) : Prop where
  d14 : Dfn K mg "is_integer" (topS 14)
  d15 : Dfn K mg "is_number" (topS 15)
  d16 : Dfn K mg "is_below" (topS 16)
  d17 : Dfn K mg "is_text" (topS 17)
  d18 : Dfn K mg "is_sequence" (topS 18)
  d19 : Dfn K mg "is_name" (topS 19)
  d23 : Dfn K mg "part_fits" (topS 23)
  d24 : Dfn K mg "row_fits" (topS 24)
  d25 : Dfn K mg "is_row" (topS 25)
  d26 : Dfn K mg "first_stranger" (topS 26)
  d27 : Dfn K mg "need_names" (topS 27)
  d29 : Dfn K mg "is_deed" (topS 29)
  d31 : Dfn K mg "effect_then" (topS 31)
  d32 : Dfn K mg "power_by" (topS 32)
  d33 : Dfn K mg "made_by" (topS 33)
  d34 : Dfn K mg "still_states" (topS 34)
  d35 : Dfn K mg "row_effect" (topS 35)
  d41 : Dfn K mg "first_unlike" (topS 41)
  d42 : Dfn K mg "home_breach" (topS 42)
  d43 : Dfn K mg "known_effect" (topS 43)
  d44 : Dfn K mg "breach_holds" (topS 44)
  d46 : Dfn K mg "_law_deal" (topS 46)
  d47 : Dfn K mg "_law_any" (topS 47)
  d48 : Dfn K mg "_law_of" (topS 48)
  d49 : Dfn K mg "_law_mixed" (topS 49)
  d50 : Dfn K mg "_law_word" (topS 50)
  d51 : Dfn K mg "_law_deeds" (topS 51)
  d52 : Dfn K mg "_law_then" (topS 52)
  d53 : Dfn K mg "_law_done" (topS 53)
  d54 : Dfn K mg "_law_effect" (topS 54)
  d55 : Dfn K mg "_law_listed" (topS 55)
  d56 : Dfn K mg "_law_joined" (topS 56)
  d57 : Dfn K mg "_law_is_unbreakable" (topS 57)
  d58 : Dfn K mg "_law_tables" (topS 58)
  d59 : Dfn K mg "_law_stills" (topS 59)
  d60 : Dfn K mg "_law_first_breach" (topS 60)
  d61 : Dfn K mg "_law_is_honest" (topS 61)
  d62 : Dfn K mg "_law_is_row" (topS 62)
  d63 : Dfn K mg "_law_is_breach" (topS 63)
  d64 : Dfn K mg "_law_papers" (topS 64)
  d65 : Dfn K mg "_law_heard" (topS 65)
  d67 : Dfn K mg "_law_told" (topS 67)
  d68 : Dfn K mg "law" (topS 68)
  d66 : DfnC K mg "_law_great" (topS 66) (.ref cG)
  d38 : DfnA K mg "all_effects" (topS 38)
  dM : DfnM K mg CM (inClass (topS 30) 0)
theorem all_ok {cG PT : Addr} (D : Defs K mg CM cG) (T : Txt K mg CM) (TE : TxE K P mg CN CS) (M : MxF K CM) (XF : XfC K CS) (hno : PySem.W.findIn K (.ref CS) "word" = some none) (TB : LamX.TabB base mg cG PT) :
    FnG P w K mg base 34 "law" (spLaw K [(PT, lamN)]) := by
  have i1 := ok_is_integer (P := P) (w := w) (base := base) D.d14 T
  have i2 := ok_is_number D.d15 i1
  have i3 := ok_is_below D.d16 i1
  have i4 := ok_is_text (P := P) (w := w) (base := base) D.d17 T
  have i5 := ok_is_sequence (P := P) (w := w) (base := base) D.d18 T
  have i6 := ok_is_name D.d19 T i4
  have r1 := row_chain D.d24 D.d23 D.d25 T i6 i2
  have s0 := ok_first_stranger False D.d26 T (no_first_stranger (P := P) (w := w) (base := base) D.d26)
  have s1 := ok_first_stranger True D.d26 T (s0.imp fun vs H Q E h => h.2)
  have n1 := ok_need_names D.d27 T TE (by decide) s1
  have e1 := ok_effect_then (P := P) (w := w) (base := base) D.d31 T
  have p1 := ok_power_by D.d32 T e1
  have m0 := ok_made_by False (k := 2) (by decide) D.d33 T e1 p1 ((no_made_by (P := P) (w := w) (base := base) D.d33).mono (by decide))
  have m1 := ok_made_by True (by decide) D.d33 T e1 p1 (m0.imp fun vs H Q E h => h.2)
  have gt : ∃ ft, mg "effect_then" = some (.ref ft) := by
    obtain ⟨f, _, _, h⟩ := D.d31.ex
    exact ⟨f, h⟩
  have x1 := ok_row_effect (k := 4) (by decide) D.d35 T M gt n1 m1
  have t1 := ok_still_states (P := P) (w := w) (base := base) D.d34 T
  have u1 := ok_first_unlike (P := P) (w := w) (base := base) D.d41 T
  have k1 := ok_known_effect D.d43 T TE r1 (x1.mono (by decide))
  have b1 := ok_breach_holds (by decide) D.d44 T M k1 t1 e1 i3
  have d1 := ok_is_deed D.d29 T i6 i5 i3
  have c1 := ok_Machine D.dM T M d1 i5
  have a1 := ok_all_effects D.d38 T TE M e1
  have h1 := ok_home_breach D.d42 T a1 t1 u1 e1
  have l1 := ok__law_deal (P := P) (w := w) (base := base) D.d46 T
  have l2 := ok__law_any (P := P) (w := w) (base := base) D.d47 T
  have l3 := ok__law_of D.d48 T l2
  have l4 := ok__law_mixed D.d49 T l2
  have l5 := ok__law_word D.d50 T l2
  have l6 := ok__law_deeds D.d51 T l5
  have l7 := ok__law_then (P := P) (w := w) (base := base) D.d52 T
  have l8 := ok__law_done D.d53 T l7
  have f0 := ok__law_effect False (k := 2) (by decide) D.d54 T l7 l8 ((no__law_effect (P := P) (w := w) (base := base) D.d54).mono (by decide))
  have f1 := ok__law_effect True (by decide) D.d54 T l7 l8 (f0.imp fun vs H Q E h => h.2)
  have l9 := ok__law_listed D.d55 T l7
  have j1 := ok__law_joined (P := P) (w := w) (base := base) D.d56 T
  have j2 := ok__law_is_unbreakable D.d57 T j1
  have q1 := ok__law_tables D.d58 T l2 l3 l4
  have q2 := ok__law_stills (P := P) (w := w) (base := base) D.d59 T
  have q3 := ok__law_first_breach D.d60 T l7 q2
  have q4 := ok__law_is_honest D.d61 T l7
  have q5 := ok__law_is_row (P := P) (w := w) (base := base) D.d62 T
  have q6 := ok__law_is_breach (by decide) D.d63 T q5 f1 l7 q2
  have q7 := ok__law_papers D.d64 T l2 l3 l5
  have h2 := FnK.fnE h1 (fun _ _ _ _ _ _ us hl => match us, hl with | [_], _ => rfl)
  have b2 := FnK.fn b1 (fun _ _ _ _ _ _ us hl => match us, hl with | [_, _], _ => rfl)
  have g1 := ok__law_great (T0 := [(PT, lamN)]) D.d66 D.d65 T TE XF hno TB (List.mem_cons_self ..) (fun p hp _ => by rw [List.mem_singleton.mp hp]; rfl) l2 l3 l4 l6 c1 h2 (by decide) (by decide) b2 q6
  have z1 := ok__law_told D.d67 T l9 q3 h1 c1
  exact ok_law D.d68 T l1 l2 g1 l6 q1 c1 z1 (by decide) (by decide) b1 q6 q7 j2 q4
end
end EO
end
section
set_option Elab.async false
set_option linter.all false
set_option maxRecDepth 100000
/-! all facts put in; the end -/
namespace EO
open PySem PySem.Spec PyProof.Rows L2
set_option maxHeartbeats 4000000 in
theorem all_mk {P : Program} {w : World} {K : PySem.W.Frag} {h : Heap} {mg : Str → Option Value} (X : K.In h) (G : h.Ns mainGlobals mg)
    {f14 : Addr} {od14 an14 : Option Addr} {sl14 : Array (Option Value)} {oc14 kV14 dc14 pm14 cd14 ct14 : Value}
    {f15 : Addr} {od15 an15 : Option Addr} {sl15 : Array (Option Value)} {oc15 kV15 dc15 pm15 cd15 ct15 : Value}
    {f16 : Addr} {od16 an16 : Option Addr} {sl16 : Array (Option Value)} {oc16 kV16 dc16 pm16 cd16 ct16 : Value}
    {f17 : Addr} {od17 an17 : Option Addr} {sl17 : Array (Option Value)} {oc17 kV17 dc17 pm17 cd17 ct17 : Value}
    {f18 : Addr} {od18 an18 : Option Addr} {sl18 : Array (Option Value)} {oc18 kV18 dc18 pm18 cd18 ct18 : Value}
    {f19 : Addr} {od19 an19 : Option Addr} {sl19 : Array (Option Value)} {oc19 kV19 dc19 pm19 cd19 ct19 : Value}
    {f23 : Addr} {od23 an23 : Option Addr} {sl23 : Array (Option Value)} {oc23 kV23 dc23 pm23 cd23 ct23 : Value}
    {f24 : Addr} {od24 an24 : Option Addr} {sl24 : Array (Option Value)} {oc24 kV24 dc24 pm24 cd24 ct24 : Value}
    {f25 : Addr} {od25 an25 : Option Addr} {sl25 : Array (Option Value)} {oc25 kV25 dc25 pm25 cd25 ct25 : Value}
    {f26 : Addr} {od26 an26 : Option Addr} {sl26 : Array (Option Value)} {oc26 kV26 dc26 pm26 cd26 ct26 : Value}
    {f27 : Addr} {od27 an27 : Option Addr} {sl27 : Array (Option Value)} {oc27 kV27 dc27 pm27 cd27 ct27 : Value}
    {f29 : Addr} {od29 an29 : Option Addr} {sl29 : Array (Option Value)} {oc29 kV29 dc29 pm29 cd29 ct29 : Value}
    {f31 : Addr} {od31 an31 : Option Addr} {sl31 : Array (Option Value)} {oc31 kV31 dc31 pm31 cd31 ct31 : Value}
    {f32 : Addr} {od32 an32 : Option Addr} {sl32 : Array (Option Value)} {oc32 kV32 dc32 pm32 cd32 ct32 : Value}
    {f33 : Addr} {od33 an33 : Option Addr} {sl33 : Array (Option Value)} {oc33 kV33 dc33 pm33 cd33 ct33 : Value}
    {f34 : Addr} {od34 an34 : Option Addr} {sl34 : Array (Option Value)} {oc34 kV34 dc34 pm34 cd34 ct34 : Value}
    {f35 : Addr} {od35 an35 : Option Addr} {sl35 : Array (Option Value)} {oc35 kV35 dc35 pm35 cd35 ct35 : Value}
    {f41 : Addr} {od41 an41 : Option Addr} {sl41 : Array (Option Value)} {oc41 kV41 dc41 pm41 cd41 ct41 : Value}
    {f42 : Addr} {od42 an42 : Option Addr} {sl42 : Array (Option Value)} {oc42 kV42 dc42 pm42 cd42 ct42 : Value}
    {f43 : Addr} {od43 an43 : Option Addr} {sl43 : Array (Option Value)} {oc43 kV43 dc43 pm43 cd43 ct43 : Value}
    {f44 : Addr} {od44 an44 : Option Addr} {sl44 : Array (Option Value)} {oc44 kV44 dc44 pm44 cd44 ct44 : Value}
    {f46 : Addr} {od46 an46 : Option Addr} {sl46 : Array (Option Value)} {oc46 kV46 dc46 pm46 cd46 ct46 : Value}
    {f47 : Addr} {od47 an47 : Option Addr} {sl47 : Array (Option Value)} {oc47 kV47 dc47 pm47 cd47 ct47 : Value}
    {f48 : Addr} {od48 an48 : Option Addr} {sl48 : Array (Option Value)} {oc48 kV48 dc48 pm48 cd48 ct48 : Value}
    {f49 : Addr} {od49 an49 : Option Addr} {sl49 : Array (Option Value)} {oc49 kV49 dc49 pm49 cd49 ct49 : Value}
    {f50 : Addr} {od50 an50 : Option Addr} {sl50 : Array (Option Value)} {oc50 kV50 dc50 pm50 cd50 ct50 : Value}
    {f51 : Addr} {od51 an51 : Option Addr} {sl51 : Array (Option Value)} {oc51 kV51 dc51 pm51 cd51 ct51 : Value}
    {f52 : Addr} {od52 an52 : Option Addr} {sl52 : Array (Option Value)} {oc52 kV52 dc52 pm52 cd52 ct52 : Value}
    {f53 : Addr} {od53 an53 : Option Addr} {sl53 : Array (Option Value)} {oc53 kV53 dc53 pm53 cd53 ct53 : Value}
    {f54 : Addr} {od54 an54 : Option Addr} {sl54 : Array (Option Value)} {oc54 kV54 dc54 pm54 cd54 ct54 : Value}
    {f55 : Addr} {od55 an55 : Option Addr} {sl55 : Array (Option Value)} {oc55 kV55 dc55 pm55 cd55 ct55 : Value}
    {f56 : Addr} {od56 an56 : Option Addr} {sl56 : Array (Option Value)} {oc56 kV56 dc56 pm56 cd56 ct56 : Value}
    {f57 : Addr} {od57 an57 : Option Addr} {sl57 : Array (Option Value)} {oc57 kV57 dc57 pm57 cd57 ct57 : Value}
    {f58 : Addr} {od58 an58 : Option Addr} {sl58 : Array (Option Value)} {oc58 kV58 dc58 pm58 cd58 ct58 : Value}
    {f59 : Addr} {od59 an59 : Option Addr} {sl59 : Array (Option Value)} {oc59 kV59 dc59 pm59 cd59 ct59 : Value}
    {f60 : Addr} {od60 an60 : Option Addr} {sl60 : Array (Option Value)} {oc60 kV60 dc60 pm60 cd60 ct60 : Value}
    {f61 : Addr} {od61 an61 : Option Addr} {sl61 : Array (Option Value)} {oc61 kV61 dc61 pm61 cd61 ct61 : Value}
    {f62 : Addr} {od62 an62 : Option Addr} {sl62 : Array (Option Value)} {oc62 kV62 dc62 pm62 cd62 ct62 : Value}
    {f63 : Addr} {od63 an63 : Option Addr} {sl63 : Array (Option Value)} {oc63 kV63 dc63 pm63 cd63 ct63 : Value}
    {f64 : Addr} {od64 an64 : Option Addr} {sl64 : Array (Option Value)} {oc64 kV64 dc64 pm64 cd64 ct64 : Value}
    {f65 : Addr} {od65 an65 : Option Addr} {sl65 : Array (Option Value)} {oc65 kV65 dc65 pm65 cd65 ct65 : Value}
    {f67 : Addr} {od67 an67 : Option Addr} {sl67 : Array (Option Value)} {oc67 kV67 dc67 pm67 cd67 ct67 : Value}
    {f68 : Addr} {od68 an68 : Option Addr} {sl68 : Array (Option Value)} {oc68 kV68 dc68 pm68 cd68 ct68 : Value}
    {cG PT : Addr} {oG : Value} {dG : Option Addr} {vG : Array Value} {sG : Array (Option Value)}
    {f66 : Addr} {od66 an66 : Option Addr} {sl66 : Array (Option Value)} {oc66 kV66 dc66 pm66 ct66 : Value}
    {f38 : Addr} {od38 an38 : Option Addr} {sl38 : Array (Option Value)} {oc38 kV38 dc38 pm38 cd38 ct38 : Value}
    {CM fM : Addr} {odM anM : Option Addr} {slM : Array (Option Value)} {ocM kVM dcM pmM cdM ctM : Value}
    {t_LETTERS : Tok}
    {t_LONGEST : Tok}
    {t_MOST_STATES : Tok}
    {t_MOST_DEEDS : Tok}
    {t_MOST_TIMES : Tok}
    {t_DEEPEST : Tok}
    {t_MOST_BREACHED : Tok}
    {CS CO fS cdaS ccS NS : Addr} {nS qS : Str} {bsS subS : List Value} {snS : List Str} {abS : Bool} {colS : Option Bool} {ddS : Option Addr} {j0S j1S j2S j3S j5S : Option Value} {kVS dcS pmS ctS ocS cclS clS : Value} {anS odS cddS cldS : Option Addr} {slS ccsS cslS : Array (Option Value)} {vsS : Array Value} {fileS : Str} {tfS : Tok}
    {CN  fN cdaN ccN NN : Addr} {nN qN : Str} {bsN subN : List Value} {snN : List Str} {abN : Bool} {colN : Option Bool} {ddN : Option Addr} {j0N j1N j2N j3N j5N : Option Value} {kVN dcN pmN ctN ocN cclN clN : Value} {anN odN cddN cldN : Option Addr} {slN ccsN cslN : Array (Option Value)} {vsN : Array Value} {fileN : Str} {tfN : Tok}
    (a14 : PySem.W.nsIn K mainGlobals "is_integer" = some (some (.ref f14)))
    (l14 : K.lookup f14 = some ⟨oc14, od14, .func (PySem.W.fnOf "is_integer" "is_integer" (defArgs (topS 14)) (defBody (topS 14)) (defScope (topS 14)) .none kV14 dc14 pm14 an14 cd14 ct14), sl14⟩)
    (c14 : PySem.W.codeIn K cd14 "is_integer" = true)
    (k14 : PySem.W.keepIn K (.ref f14) = true)
    (a15 : PySem.W.nsIn K mainGlobals "is_number" = some (some (.ref f15)))
    (l15 : K.lookup f15 = some ⟨oc15, od15, .func (PySem.W.fnOf "is_number" "is_number" (defArgs (topS 15)) (defBody (topS 15)) (defScope (topS 15)) .none kV15 dc15 pm15 an15 cd15 ct15), sl15⟩)
    (c15 : PySem.W.codeIn K cd15 "is_number" = true)
    (k15 : PySem.W.keepIn K (.ref f15) = true)
    (a16 : PySem.W.nsIn K mainGlobals "is_below" = some (some (.ref f16)))
    (l16 : K.lookup f16 = some ⟨oc16, od16, .func (PySem.W.fnOf "is_below" "is_below" (defArgs (topS 16)) (defBody (topS 16)) (defScope (topS 16)) .none kV16 dc16 pm16 an16 cd16 ct16), sl16⟩)
    (c16 : PySem.W.codeIn K cd16 "is_below" = true)
    (k16 : PySem.W.keepIn K (.ref f16) = true)
    (a17 : PySem.W.nsIn K mainGlobals "is_text" = some (some (.ref f17)))
    (l17 : K.lookup f17 = some ⟨oc17, od17, .func (PySem.W.fnOf "is_text" "is_text" (defArgs (topS 17)) (defBody (topS 17)) (defScope (topS 17)) .none kV17 dc17 pm17 an17 cd17 ct17), sl17⟩)
    (c17 : PySem.W.codeIn K cd17 "is_text" = true)
    (k17 : PySem.W.keepIn K (.ref f17) = true)
    (a18 : PySem.W.nsIn K mainGlobals "is_sequence" = some (some (.ref f18)))
    (l18 : K.lookup f18 = some ⟨oc18, od18, .func (PySem.W.fnOf "is_sequence" "is_sequence" (defArgs (topS 18)) (defBody (topS 18)) (defScope (topS 18)) .none kV18 dc18 pm18 an18 cd18 ct18), sl18⟩)
    (c18 : PySem.W.codeIn K cd18 "is_sequence" = true)
    (k18 : PySem.W.keepIn K (.ref f18) = true)
    (a19 : PySem.W.nsIn K mainGlobals "is_name" = some (some (.ref f19)))
    (l19 : K.lookup f19 = some ⟨oc19, od19, .func (PySem.W.fnOf "is_name" "is_name" (defArgs (topS 19)) (defBody (topS 19)) (defScope (topS 19)) .none kV19 dc19 pm19 an19 cd19 ct19), sl19⟩)
    (c19 : PySem.W.codeIn K cd19 "is_name" = true)
    (k19 : PySem.W.keepIn K (.ref f19) = true)
    (a23 : PySem.W.nsIn K mainGlobals "part_fits" = some (some (.ref f23)))
    (l23 : K.lookup f23 = some ⟨oc23, od23, .func (PySem.W.fnOf "part_fits" "part_fits" (defArgs (topS 23)) (defBody (topS 23)) (defScope (topS 23)) .none kV23 dc23 pm23 an23 cd23 ct23), sl23⟩)
    (c23 : PySem.W.codeIn K cd23 "part_fits" = true)
    (k23 : PySem.W.keepIn K (.ref f23) = true)
    (a24 : PySem.W.nsIn K mainGlobals "row_fits" = some (some (.ref f24)))
    (l24 : K.lookup f24 = some ⟨oc24, od24, .func (PySem.W.fnOf "row_fits" "row_fits" (defArgs (topS 24)) (defBody (topS 24)) (defScope (topS 24)) .none kV24 dc24 pm24 an24 cd24 ct24), sl24⟩)
    (c24 : PySem.W.codeIn K cd24 "row_fits" = true)
    (k24 : PySem.W.keepIn K (.ref f24) = true)
    (a25 : PySem.W.nsIn K mainGlobals "is_row" = some (some (.ref f25)))
    (l25 : K.lookup f25 = some ⟨oc25, od25, .func (PySem.W.fnOf "is_row" "is_row" (defArgs (topS 25)) (defBody (topS 25)) (defScope (topS 25)) .none kV25 dc25 pm25 an25 cd25 ct25), sl25⟩)
    (c25 : PySem.W.codeIn K cd25 "is_row" = true)
    (k25 : PySem.W.keepIn K (.ref f25) = true)
    (a26 : PySem.W.nsIn K mainGlobals "first_stranger" = some (some (.ref f26)))
    (l26 : K.lookup f26 = some ⟨oc26, od26, .func (PySem.W.fnOf "first_stranger" "first_stranger" (defArgs (topS 26)) (defBody (topS 26)) (defScope (topS 26)) .none kV26 dc26 pm26 an26 cd26 ct26), sl26⟩)
    (c26 : PySem.W.codeIn K cd26 "first_stranger" = true)
    (k26 : PySem.W.keepIn K (.ref f26) = true)
    (a27 : PySem.W.nsIn K mainGlobals "need_names" = some (some (.ref f27)))
    (l27 : K.lookup f27 = some ⟨oc27, od27, .func (PySem.W.fnOf "need_names" "need_names" (defArgs (topS 27)) (defBody (topS 27)) (defScope (topS 27)) .none kV27 dc27 pm27 an27 cd27 ct27), sl27⟩)
    (c27 : PySem.W.codeIn K cd27 "need_names" = true)
    (k27 : PySem.W.keepIn K (.ref f27) = true)
    (a29 : PySem.W.nsIn K mainGlobals "is_deed" = some (some (.ref f29)))
    (l29 : K.lookup f29 = some ⟨oc29, od29, .func (PySem.W.fnOf "is_deed" "is_deed" (defArgs (topS 29)) (defBody (topS 29)) (defScope (topS 29)) .none kV29 dc29 pm29 an29 cd29 ct29), sl29⟩)
    (c29 : PySem.W.codeIn K cd29 "is_deed" = true)
    (k29 : PySem.W.keepIn K (.ref f29) = true)
    (a31 : PySem.W.nsIn K mainGlobals "effect_then" = some (some (.ref f31)))
    (l31 : K.lookup f31 = some ⟨oc31, od31, .func (PySem.W.fnOf "effect_then" "effect_then" (defArgs (topS 31)) (defBody (topS 31)) (defScope (topS 31)) .none kV31 dc31 pm31 an31 cd31 ct31), sl31⟩)
    (c31 : PySem.W.codeIn K cd31 "effect_then" = true)
    (k31 : PySem.W.keepIn K (.ref f31) = true)
    (a32 : PySem.W.nsIn K mainGlobals "power_by" = some (some (.ref f32)))
    (l32 : K.lookup f32 = some ⟨oc32, od32, .func (PySem.W.fnOf "power_by" "power_by" (defArgs (topS 32)) (defBody (topS 32)) (defScope (topS 32)) .none kV32 dc32 pm32 an32 cd32 ct32), sl32⟩)
    (c32 : PySem.W.codeIn K cd32 "power_by" = true)
    (k32 : PySem.W.keepIn K (.ref f32) = true)
    (a33 : PySem.W.nsIn K mainGlobals "made_by" = some (some (.ref f33)))
    (l33 : K.lookup f33 = some ⟨oc33, od33, .func (PySem.W.fnOf "made_by" "made_by" (defArgs (topS 33)) (defBody (topS 33)) (defScope (topS 33)) .none kV33 dc33 pm33 an33 cd33 ct33), sl33⟩)
    (c33 : PySem.W.codeIn K cd33 "made_by" = true)
    (k33 : PySem.W.keepIn K (.ref f33) = true)
    (a34 : PySem.W.nsIn K mainGlobals "still_states" = some (some (.ref f34)))
    (l34 : K.lookup f34 = some ⟨oc34, od34, .func (PySem.W.fnOf "still_states" "still_states" (defArgs (topS 34)) (defBody (topS 34)) (defScope (topS 34)) .none kV34 dc34 pm34 an34 cd34 ct34), sl34⟩)
    (c34 : PySem.W.codeIn K cd34 "still_states" = true)
    (k34 : PySem.W.keepIn K (.ref f34) = true)
    (a35 : PySem.W.nsIn K mainGlobals "row_effect" = some (some (.ref f35)))
    (l35 : K.lookup f35 = some ⟨oc35, od35, .func (PySem.W.fnOf "row_effect" "row_effect" (defArgs (topS 35)) (defBody (topS 35)) (defScope (topS 35)) .none kV35 dc35 pm35 an35 cd35 ct35), sl35⟩)
    (c35 : PySem.W.codeIn K cd35 "row_effect" = true)
    (k35 : PySem.W.keepIn K (.ref f35) = true)
    (a41 : PySem.W.nsIn K mainGlobals "first_unlike" = some (some (.ref f41)))
    (l41 : K.lookup f41 = some ⟨oc41, od41, .func (PySem.W.fnOf "first_unlike" "first_unlike" (defArgs (topS 41)) (defBody (topS 41)) (defScope (topS 41)) .none kV41 dc41 pm41 an41 cd41 ct41), sl41⟩)
    (c41 : PySem.W.codeIn K cd41 "first_unlike" = true)
    (k41 : PySem.W.keepIn K (.ref f41) = true)
    (a42 : PySem.W.nsIn K mainGlobals "home_breach" = some (some (.ref f42)))
    (l42 : K.lookup f42 = some ⟨oc42, od42, .func (PySem.W.fnOf "home_breach" "home_breach" (defArgs (topS 42)) (defBody (topS 42)) (defScope (topS 42)) .none kV42 dc42 pm42 an42 cd42 ct42), sl42⟩)
    (c42 : PySem.W.codeIn K cd42 "home_breach" = true)
    (k42 : PySem.W.keepIn K (.ref f42) = true)
    (a43 : PySem.W.nsIn K mainGlobals "known_effect" = some (some (.ref f43)))
    (l43 : K.lookup f43 = some ⟨oc43, od43, .func (PySem.W.fnOf "known_effect" "known_effect" (defArgs (topS 43)) (defBody (topS 43)) (defScope (topS 43)) .none kV43 dc43 pm43 an43 cd43 ct43), sl43⟩)
    (c43 : PySem.W.codeIn K cd43 "known_effect" = true)
    (k43 : PySem.W.keepIn K (.ref f43) = true)
    (a44 : PySem.W.nsIn K mainGlobals "breach_holds" = some (some (.ref f44)))
    (l44 : K.lookup f44 = some ⟨oc44, od44, .func (PySem.W.fnOf "breach_holds" "breach_holds" (defArgs (topS 44)) (defBody (topS 44)) (defScope (topS 44)) .none kV44 dc44 pm44 an44 cd44 ct44), sl44⟩)
    (c44 : PySem.W.codeIn K cd44 "breach_holds" = true)
    (k44 : PySem.W.keepIn K (.ref f44) = true)
    (a46 : PySem.W.nsIn K mainGlobals "_law_deal" = some (some (.ref f46)))
    (l46 : K.lookup f46 = some ⟨oc46, od46, .func (PySem.W.fnOf "_law_deal" "_law_deal" (defArgs (topS 46)) (defBody (topS 46)) (defScope (topS 46)) .none kV46 dc46 pm46 an46 cd46 ct46), sl46⟩)
    (c46 : PySem.W.codeIn K cd46 "_law_deal" = true)
    (k46 : PySem.W.keepIn K (.ref f46) = true)
    (a47 : PySem.W.nsIn K mainGlobals "_law_any" = some (some (.ref f47)))
    (l47 : K.lookup f47 = some ⟨oc47, od47, .func (PySem.W.fnOf "_law_any" "_law_any" (defArgs (topS 47)) (defBody (topS 47)) (defScope (topS 47)) .none kV47 dc47 pm47 an47 cd47 ct47), sl47⟩)
    (c47 : PySem.W.codeIn K cd47 "_law_any" = true)
    (k47 : PySem.W.keepIn K (.ref f47) = true)
    (a48 : PySem.W.nsIn K mainGlobals "_law_of" = some (some (.ref f48)))
    (l48 : K.lookup f48 = some ⟨oc48, od48, .func (PySem.W.fnOf "_law_of" "_law_of" (defArgs (topS 48)) (defBody (topS 48)) (defScope (topS 48)) .none kV48 dc48 pm48 an48 cd48 ct48), sl48⟩)
    (c48 : PySem.W.codeIn K cd48 "_law_of" = true)
    (k48 : PySem.W.keepIn K (.ref f48) = true)
    (a49 : PySem.W.nsIn K mainGlobals "_law_mixed" = some (some (.ref f49)))
    (l49 : K.lookup f49 = some ⟨oc49, od49, .func (PySem.W.fnOf "_law_mixed" "_law_mixed" (defArgs (topS 49)) (defBody (topS 49)) (defScope (topS 49)) .none kV49 dc49 pm49 an49 cd49 ct49), sl49⟩)
    (c49 : PySem.W.codeIn K cd49 "_law_mixed" = true)
    (k49 : PySem.W.keepIn K (.ref f49) = true)
    (a50 : PySem.W.nsIn K mainGlobals "_law_word" = some (some (.ref f50)))
    (l50 : K.lookup f50 = some ⟨oc50, od50, .func (PySem.W.fnOf "_law_word" "_law_word" (defArgs (topS 50)) (defBody (topS 50)) (defScope (topS 50)) .none kV50 dc50 pm50 an50 cd50 ct50), sl50⟩)
    (c50 : PySem.W.codeIn K cd50 "_law_word" = true)
    (k50 : PySem.W.keepIn K (.ref f50) = true)
    (a51 : PySem.W.nsIn K mainGlobals "_law_deeds" = some (some (.ref f51)))
    (l51 : K.lookup f51 = some ⟨oc51, od51, .func (PySem.W.fnOf "_law_deeds" "_law_deeds" (defArgs (topS 51)) (defBody (topS 51)) (defScope (topS 51)) .none kV51 dc51 pm51 an51 cd51 ct51), sl51⟩)
    (c51 : PySem.W.codeIn K cd51 "_law_deeds" = true)
    (k51 : PySem.W.keepIn K (.ref f51) = true)
    (a52 : PySem.W.nsIn K mainGlobals "_law_then" = some (some (.ref f52)))
    (l52 : K.lookup f52 = some ⟨oc52, od52, .func (PySem.W.fnOf "_law_then" "_law_then" (defArgs (topS 52)) (defBody (topS 52)) (defScope (topS 52)) .none kV52 dc52 pm52 an52 cd52 ct52), sl52⟩)
    (c52 : PySem.W.codeIn K cd52 "_law_then" = true)
    (k52 : PySem.W.keepIn K (.ref f52) = true)
    (a53 : PySem.W.nsIn K mainGlobals "_law_done" = some (some (.ref f53)))
    (l53 : K.lookup f53 = some ⟨oc53, od53, .func (PySem.W.fnOf "_law_done" "_law_done" (defArgs (topS 53)) (defBody (topS 53)) (defScope (topS 53)) .none kV53 dc53 pm53 an53 cd53 ct53), sl53⟩)
    (c53 : PySem.W.codeIn K cd53 "_law_done" = true)
    (k53 : PySem.W.keepIn K (.ref f53) = true)
    (a54 : PySem.W.nsIn K mainGlobals "_law_effect" = some (some (.ref f54)))
    (l54 : K.lookup f54 = some ⟨oc54, od54, .func (PySem.W.fnOf "_law_effect" "_law_effect" (defArgs (topS 54)) (defBody (topS 54)) (defScope (topS 54)) .none kV54 dc54 pm54 an54 cd54 ct54), sl54⟩)
    (c54 : PySem.W.codeIn K cd54 "_law_effect" = true)
    (k54 : PySem.W.keepIn K (.ref f54) = true)
    (a55 : PySem.W.nsIn K mainGlobals "_law_listed" = some (some (.ref f55)))
    (l55 : K.lookup f55 = some ⟨oc55, od55, .func (PySem.W.fnOf "_law_listed" "_law_listed" (defArgs (topS 55)) (defBody (topS 55)) (defScope (topS 55)) .none kV55 dc55 pm55 an55 cd55 ct55), sl55⟩)
    (c55 : PySem.W.codeIn K cd55 "_law_listed" = true)
    (k55 : PySem.W.keepIn K (.ref f55) = true)
    (a56 : PySem.W.nsIn K mainGlobals "_law_joined" = some (some (.ref f56)))
    (l56 : K.lookup f56 = some ⟨oc56, od56, .func (PySem.W.fnOf "_law_joined" "_law_joined" (defArgs (topS 56)) (defBody (topS 56)) (defScope (topS 56)) .none kV56 dc56 pm56 an56 cd56 ct56), sl56⟩)
    (c56 : PySem.W.codeIn K cd56 "_law_joined" = true)
    (k56 : PySem.W.keepIn K (.ref f56) = true)
    (a57 : PySem.W.nsIn K mainGlobals "_law_is_unbreakable" = some (some (.ref f57)))
    (l57 : K.lookup f57 = some ⟨oc57, od57, .func (PySem.W.fnOf "_law_is_unbreakable" "_law_is_unbreakable" (defArgs (topS 57)) (defBody (topS 57)) (defScope (topS 57)) .none kV57 dc57 pm57 an57 cd57 ct57), sl57⟩)
    (c57 : PySem.W.codeIn K cd57 "_law_is_unbreakable" = true)
    (k57 : PySem.W.keepIn K (.ref f57) = true)
    (a58 : PySem.W.nsIn K mainGlobals "_law_tables" = some (some (.ref f58)))
    (l58 : K.lookup f58 = some ⟨oc58, od58, .func (PySem.W.fnOf "_law_tables" "_law_tables" (defArgs (topS 58)) (defBody (topS 58)) (defScope (topS 58)) .none kV58 dc58 pm58 an58 cd58 ct58), sl58⟩)
    (c58 : PySem.W.codeIn K cd58 "_law_tables" = true)
    (k58 : PySem.W.keepIn K (.ref f58) = true)
    (a59 : PySem.W.nsIn K mainGlobals "_law_stills" = some (some (.ref f59)))
    (l59 : K.lookup f59 = some ⟨oc59, od59, .func (PySem.W.fnOf "_law_stills" "_law_stills" (defArgs (topS 59)) (defBody (topS 59)) (defScope (topS 59)) .none kV59 dc59 pm59 an59 cd59 ct59), sl59⟩)
    (c59 : PySem.W.codeIn K cd59 "_law_stills" = true)
    (k59 : PySem.W.keepIn K (.ref f59) = true)
    (a60 : PySem.W.nsIn K mainGlobals "_law_first_breach" = some (some (.ref f60)))
    (l60 : K.lookup f60 = some ⟨oc60, od60, .func (PySem.W.fnOf "_law_first_breach" "_law_first_breach" (defArgs (topS 60)) (defBody (topS 60)) (defScope (topS 60)) .none kV60 dc60 pm60 an60 cd60 ct60), sl60⟩)
    (c60 : PySem.W.codeIn K cd60 "_law_first_breach" = true)
    (k60 : PySem.W.keepIn K (.ref f60) = true)
    (a61 : PySem.W.nsIn K mainGlobals "_law_is_honest" = some (some (.ref f61)))
    (l61 : K.lookup f61 = some ⟨oc61, od61, .func (PySem.W.fnOf "_law_is_honest" "_law_is_honest" (defArgs (topS 61)) (defBody (topS 61)) (defScope (topS 61)) .none kV61 dc61 pm61 an61 cd61 ct61), sl61⟩)
    (c61 : PySem.W.codeIn K cd61 "_law_is_honest" = true)
    (k61 : PySem.W.keepIn K (.ref f61) = true)
    (a62 : PySem.W.nsIn K mainGlobals "_law_is_row" = some (some (.ref f62)))
    (l62 : K.lookup f62 = some ⟨oc62, od62, .func (PySem.W.fnOf "_law_is_row" "_law_is_row" (defArgs (topS 62)) (defBody (topS 62)) (defScope (topS 62)) .none kV62 dc62 pm62 an62 cd62 ct62), sl62⟩)
    (c62 : PySem.W.codeIn K cd62 "_law_is_row" = true)
    (k62 : PySem.W.keepIn K (.ref f62) = true)
    (a63 : PySem.W.nsIn K mainGlobals "_law_is_breach" = some (some (.ref f63)))
    (l63 : K.lookup f63 = some ⟨oc63, od63, .func (PySem.W.fnOf "_law_is_breach" "_law_is_breach" (defArgs (topS 63)) (defBody (topS 63)) (defScope (topS 63)) .none kV63 dc63 pm63 an63 cd63 ct63), sl63⟩)
    (c63 : PySem.W.codeIn K cd63 "_law_is_breach" = true)
    (k63 : PySem.W.keepIn K (.ref f63) = true)
    (a64 : PySem.W.nsIn K mainGlobals "_law_papers" = some (some (.ref f64)))
    (l64 : K.lookup f64 = some ⟨oc64, od64, .func (PySem.W.fnOf "_law_papers" "_law_papers" (defArgs (topS 64)) (defBody (topS 64)) (defScope (topS 64)) .none kV64 dc64 pm64 an64 cd64 ct64), sl64⟩)
    (c64 : PySem.W.codeIn K cd64 "_law_papers" = true)
    (k64 : PySem.W.keepIn K (.ref f64) = true)
    (a65 : PySem.W.nsIn K mainGlobals "_law_heard" = some (some (.ref f65)))
    (l65 : K.lookup f65 = some ⟨oc65, od65, .func (PySem.W.fnOf "_law_heard" "_law_heard" (defArgs (topS 65)) (defBody (topS 65)) (defScope (topS 65)) .none kV65 dc65 pm65 an65 cd65 ct65), sl65⟩)
    (c65 : PySem.W.codeIn K cd65 "_law_heard" = true)
    (k65 : PySem.W.keepIn K (.ref f65) = true)
    (a67 : PySem.W.nsIn K mainGlobals "_law_told" = some (some (.ref f67)))
    (l67 : K.lookup f67 = some ⟨oc67, od67, .func (PySem.W.fnOf "_law_told" "_law_told" (defArgs (topS 67)) (defBody (topS 67)) (defScope (topS 67)) .none kV67 dc67 pm67 an67 cd67 ct67), sl67⟩)
    (c67 : PySem.W.codeIn K cd67 "_law_told" = true)
    (k67 : PySem.W.keepIn K (.ref f67) = true)
    (a68 : PySem.W.nsIn K mainGlobals "law" = some (some (.ref f68)))
    (l68 : K.lookup f68 = some ⟨oc68, od68, .func (PySem.W.fnOf "law" "law" (defArgs (topS 68)) (defBody (topS 68)) (defScope (topS 68)) .none kV68 dc68 pm68 an68 cd68 ct68), sl68⟩)
    (c68 : PySem.W.codeIn K cd68 "law" = true)
    (k68 : PySem.W.keepIn K (.ref f68) = true)
    (a66 : PySem.W.nsIn K mainGlobals "_law_great" = some (some (.ref f66)))
    (l66 : K.lookup f66 = some ⟨oc66, od66, .func (PySem.W.fnOf "_law_great" "_law_great" (defArgs (topS 66)) (defBody (topS 66)) (defScope (topS 66)) .none kV66 dc66 pm66 an66 (.ref cG) ct66), sl66⟩)
    (c66 : PySem.W.codeIn K (.ref cG) "_law_great" = true)
    (k66 : PySem.W.keepIn K (.ref f66) = true)
    (lG : K.lookup cG = some ⟨oG, dG, .fields vG, sG⟩)
    (vG : vG[11]? = some (.ref PT))
    (hG : PySem.W.codeHdIn K cG PT = true)
    (tG : h.get? PT = some { cls := .none, data := .fields #[] })
    (nG : K.lookup PT = none)
    (a38 : PySem.W.nsIn K mainGlobals "all_effects" = some (some (.ref f38)))
    (l38 : K.lookup f38 = some ⟨oc38, od38, .func (PySem.W.fnOf "all_effects" "all_effects" (defArgs (topS 38)) (defBody (topS 38)) (defScope (topS 38)) .none kV38 dc38 pm38 an38 cd38 ct38), sl38⟩)
    (c38 : PySem.W.codeIn K cd38 "all_effects" = true)
    (k38 : PySem.W.keepIn K (.ref f38) = true)
    (aM : PySem.W.nsIn K mainGlobals "Machine" = some (some (.ref CM)))
    (iM : PySem.W.findIn K (.ref CM) "__init__" = some (some (.ref fM)))
    (fnM : PySem.W.isFn K (.ref fM) = true)
    (lM : K.lookup fM = some ⟨ocM, odM, .func (PySem.W.fnOf "__init__" "Machine.__init__" (defArgs (inClass (topS 30) 0)) (defBody (inClass (topS 30) 0)) (defScope (inClass (topS 30) 0)) .none kVM dcM pmM anM cdM ctM), slM⟩)
    (cdMh : PySem.W.codeIn K cdM "Machine.__init__" = true)
    (kfM : PySem.W.keepIn K (.ref fM) = true)
    (mkM : PySem.W.makesIn K CM = true)
    (pgM : PySem.W.plainGet K CM Str.empty = true)
    (hdM : PySem.W.hasDictIn K CM = true)
    (poM : PySem.W.plainOver K CM = true)
    (saM : PySem.W.findIn K (.ref CM) "__setattr__" = some (some (.builtin "object.__setattr__")))
    (kcM : PySem.W.keepIn K (.ref CM) = true)
    (ndM : PySem.W.findIn K (.ref CM) "deeds" = some none)
    (nnM : PySem.W.findIn K (.ref CM) "names" = some none)
    (nsM : PySem.W.findIn K (.ref CM) "size" = some none)
    (haM : PySem.W.findIn K (.ref CM) "__class__" = some (some (.builtin "object.__class__")))
    (hnM : PySem.W.specialIn K (.builtin "object.__class__") "__get__" = some (some (.builtin "getset_descriptor.__get__")))
    (htM : PySem.W.takesIn K (.builtin "object.__class__") = some true)
    (hmM : PySem.W.mroIn K CM (.type "object") = some true)
    (ntM : PySem.W.kitOne K (.ref CM) (.type "tuple") = some false)
    (n_len : PySem.W.nsIn K mainGlobals "len" = some none)
    (n_isinstance : PySem.W.nsIn K mainGlobals "isinstance" = some none)
    (n_tuple : PySem.W.nsIn K mainGlobals "tuple" = some none)
    (n_list : PySem.W.nsIn K mainGlobals "list" = some none)
    (n_range : PySem.W.nsIn K mainGlobals "range" = some none)
    (n_int : PySem.W.nsIn K mainGlobals "int" = some none)
    (n_str : PySem.W.nsIn K mainGlobals "str" = some none)
    (n_bool : PySem.W.nsIn K mainGlobals "bool" = some none)
    (n_dict : PySem.W.nsIn K mainGlobals "dict" = some none)
    (n_set : PySem.W.nsIn K mainGlobals "set" = some none)
    (n_enumerate : PySem.W.nsIn K mainGlobals "enumerate" = some none)
    (n_abs : PySem.W.nsIn K mainGlobals "abs" = some none)
    (n_all : PySem.W.nsIn K mainGlobals "all" = some none)
    (n_max : PySem.W.nsIn K mainGlobals "max" = some none)
    (n_min : PySem.W.nsIn K mainGlobals "min" = some none)
    (n_repr : PySem.W.nsIn K mainGlobals "repr" = some none)
    (n_super : PySem.W.nsIn K mainGlobals "super" = some none)
    (v_LETTERS : PySem.W.nsIn K mainGlobals "LETTERS" = some (some (.str (Str.ofString "abcdefghijklmnopqrstuvwxyz") t_LETTERS)))
    (v_LONGEST : PySem.W.nsIn K mainGlobals "LONGEST" = some (some (.int 8 t_LONGEST)))
    (v_MOST_STATES : PySem.W.nsIn K mainGlobals "MOST_STATES" = some (some (.int 49 t_MOST_STATES)))
    (v_MOST_DEEDS : PySem.W.nsIn K mainGlobals "MOST_DEEDS" = some (some (.int 8 t_MOST_DEEDS)))
    (v_MOST_TIMES : PySem.W.nsIn K mainGlobals "MOST_TIMES" = some (some (.int 1000000000000000000 t_MOST_TIMES)))
    (v_DEEPEST : PySem.W.nsIn K mainGlobals "DEEPEST" = some (some (.int 8 t_DEEPEST)))
    (v_MOST_BREACHED : PySem.W.nsIn K mainGlobals "MOST_BREACHED" = some (some (.int 300 t_MOST_BREACHED)))
    (aS : PySem.W.nsIn K mainGlobals "InvalidSize" = some (some (.ref CS)))
    (xS : K.lookup CS = some (excClassObj nS qS CS NS bsS [.ref CO, .type "Exception", .type "BaseException", .type "object"] true snS subS abS colS ddS j0S j1S j2S j3S j5S "Exception.__new__"))
    (moS : PySem.W.mroIn K CS (.type "object") = some true)
    (alS : PySem.W.alongIn K "__init__" [.ref CO, .type "Exception", .type "BaseException", .type "object"] = some (some (.builtin "Exception.__init__")))
    (sbS : PySem.W.subIn K (.ref CS) (.type "Exception") = some true)
    (iS : PySem.W.findIn K (.ref CS) "__init__" = some (some (.ref fS)))
    (lkS : K.lookup fS = some ⟨ocS, odS, .func (PySem.W.ksFn "__init__" "InvalidSize.__init__" (defArgs (inClass (topS 4) 0)) (defBody (inClass (topS 4) 0)) (defScope (inClass (topS 4) 0)) .none kVS dcS pmS anS (.ref cdaS) ctS ccS), slS⟩)
    (cdS : PySem.W.codeIn K (.ref cdaS) "InvalidSize.__init__" = true)
    (lcS : K.lookup cdaS = some ⟨cclS, cddS, .fields vsS, ccsS⟩)
    (hvS : vsS[2]? = some (.str fileS tfS))
    (hfS : ((P.main.file : Str) == fileS) = true)
    (lccS : K.lookup ccS = some ⟨clS, cldS, .cell (some (.ref CS)), cslS⟩)
    (noS : PySem.W.findIn K (.ref CS) "word" = some none)
    (saS : PySem.W.findIn K (.ref CS) "__setattr__" = some (some (.builtin "object.__setattr__")))
    (tIS : PySem.W.typeIn K (.ref fS) = some (.type "function"))
    (exS : PySem.W.subIn K (.ref CS) (.type "BaseException") = some true)
    (tyS : PySem.W.typeIn K (.ref CS) = some (.type "type"))
    (kpS : PySem.W.keepIn K (.ref CS) = true)
    (mcS : PySem.W.mroIn K CS (.ref CS) = some true)
    (emS : PySem.W.exmOne K (.ref CS) (.ref CS) = some true)
    (aN : PySem.W.nsIn K mainGlobals "NoName" = some (some (.ref CN)))
    (xN : K.lookup CN = some (excClassObj nN qN CN NN bsN [.type "KeyError", .type "LookupError", .type "Exception", .type "BaseException", .type "object"] true snN subN abN colN ddN j0N j1N j2N j3N j5N "LookupError.__new__"))
    (moN : PySem.W.mroIn K CN (.type "object") = some true)
    (alN : PySem.W.alongIn K "__init__" [.type "KeyError", .type "LookupError", .type "Exception", .type "BaseException", .type "object"] = some (some (.builtin "KeyError.__init__")))
    (sbN : PySem.W.subIn K (.ref CN) (.type "KeyError") = some true)
    (iN : PySem.W.findIn K (.ref CN) "__init__" = some (some (.ref fN)))
    (lkN : K.lookup fN = some ⟨ocN, odN, .func (PySem.W.ksFn "__init__" "NoName.__init__" (defArgs (inClass (topS 5) 0)) (defBody (inClass (topS 5) 0)) (defScope (inClass (topS 5) 0)) .none kVN dcN pmN anN (.ref cdaN) ctN ccN), slN⟩)
    (cdN : PySem.W.codeIn K (.ref cdaN) "NoName.__init__" = true)
    (lcN : K.lookup cdaN = some ⟨cclN, cddN, .fields vsN, ccsN⟩)
    (hvN : vsN[2]? = some (.str fileN tfN))
    (hfN : ((P.main.file : Str) == fileN) = true)
    (lccN : K.lookup ccN = some ⟨clN, cldN, .cell (some (.ref CN)), cslN⟩)
    (noN : PySem.W.findIn K (.ref CN) "name" = some none)
    (saN : PySem.W.findIn K (.ref CN) "__setattr__" = some (some (.builtin "object.__setattr__")))
    (tIN : PySem.W.typeIn K (.ref fN) = some (.type "function"))
    (exN : PySem.W.subIn K (.ref CN) (.type "BaseException") = some true)
    (tyN : PySem.W.typeIn K (.ref CN) = some (.type "type"))
    (kpN : PySem.W.keepIn K (.ref CN) = true)
    (mcN : PySem.W.mroIn K CN (.ref CN) = some true)
    (emN : PySem.W.exmOne K (.ref CN) (.ref CN) = some true)
    (opq : PySem.W.nsIn K cStatics "thirdparty.any" = some none)
    (top : (P.main.scope.names.lookup ("super" : Str)).isSome = false)
    (ga : PySem.W.findIn K (.ref CS) "__getattribute__" = some (some (.builtin "BaseException.__getattribute__")))
    (gg : PySem.W.findIn K (.ref CS) "__getattr__" = some none)
    (hdS : PySem.W.hasDictIn K CS = true)
    : ∃ cG PT sp, Asks P w K mg h 34 63 "law" cG PT sp := by
  have T : Txt K mg CM := {
    len := PySem.W.mg_none_of X G n_len
    isinstance := PySem.W.mg_none_of X G n_isinstance
    tuple := PySem.W.mg_none_of X G n_tuple
    list := PySem.W.mg_none_of X G n_list
    range := PySem.W.mg_none_of X G n_range
    int := PySem.W.mg_none_of X G n_int
    str := PySem.W.mg_none_of X G n_str
    bool := PySem.W.mg_none_of X G n_bool
    dict := PySem.W.mg_none_of X G n_dict
    set := PySem.W.mg_none_of X G n_set
    enumerate := PySem.W.mg_none_of X G n_enumerate
    abs := PySem.W.mg_none_of X G n_abs
    all := PySem.W.mg_none_of X G n_all
    max := PySem.W.mg_none_of X G n_max
    min := PySem.W.mg_none_of X G n_min
    repr := PySem.W.mg_none_of X G n_repr
    LETTERS := ⟨_, PySem.W.mg_of X G v_LETTERS, _, rfl⟩
    LONGEST := ⟨_, PySem.W.mg_of X G v_LONGEST, _, rfl⟩
    MOST_STATES := ⟨_, PySem.W.mg_of X G v_MOST_STATES, _, rfl⟩
    MOST_DEEDS := ⟨_, PySem.W.mg_of X G v_MOST_DEEDS, _, rfl⟩
    MOST_TIMES := ⟨_, PySem.W.mg_of X G v_MOST_TIMES, _, rfl⟩
    DEEPEST := ⟨_, PySem.W.mg_of X G v_DEEPEST, _, rfl⟩
    MOST_BREACHED := ⟨_, PySem.W.mg_of X G v_MOST_BREACHED, _, rfl⟩
    cl := ⟨pgM, hdM, poM, saM⟩
    ha := haM
    hn := hnM
    htk := htM
    hm := hmM
    nt := ntM }
  have gS := PySem.W.mg_of X G aS
  have gN := PySem.W.mg_of X G aN
  have TE : TxE K P mg CN CS := {
    xN := ⟨_, xcls_N xN moN alN sbN lkN cdN lcN hvN hfN lccN top noN saN iN tIN opq exN tyN kpN mcN⟩
    xS := ⟨_, xcls_S xS moS alS sbS lkS cdS lcS hvS hfS lccS top noS saS iS tIS opq exS tyS kpS mcS⟩
    mN := gN
    mS := gS
    sup := PySem.W.mg_none_of X G n_super
    eN := emN
    eS := emS }
  have D : Defs K mg CM cG := {
    d14 := ⟨_, _, fun_mk l14 c14 k14, PySem.W.mg_of X G a14⟩
    d15 := ⟨_, _, fun_mk l15 c15 k15, PySem.W.mg_of X G a15⟩
    d16 := ⟨_, _, fun_mk l16 c16 k16, PySem.W.mg_of X G a16⟩
    d17 := ⟨_, _, fun_mk l17 c17 k17, PySem.W.mg_of X G a17⟩
    d18 := ⟨_, _, fun_mk l18 c18 k18, PySem.W.mg_of X G a18⟩
    d19 := ⟨_, _, fun_mk l19 c19 k19, PySem.W.mg_of X G a19⟩
    d23 := ⟨_, _, fun_mk l23 c23 k23, PySem.W.mg_of X G a23⟩
    d24 := ⟨_, _, fun_mk l24 c24 k24, PySem.W.mg_of X G a24⟩
    d25 := ⟨_, _, fun_mk l25 c25 k25, PySem.W.mg_of X G a25⟩
    d26 := ⟨_, _, fun_mk l26 c26 k26, PySem.W.mg_of X G a26⟩
    d27 := ⟨_, _, fun_mk l27 c27 k27, PySem.W.mg_of X G a27⟩
    d29 := ⟨_, _, fun_mk l29 c29 k29, PySem.W.mg_of X G a29⟩
    d31 := ⟨_, _, fun_mk l31 c31 k31, PySem.W.mg_of X G a31⟩
    d32 := ⟨_, _, fun_mk l32 c32 k32, PySem.W.mg_of X G a32⟩
    d33 := ⟨_, _, fun_mk l33 c33 k33, PySem.W.mg_of X G a33⟩
    d34 := ⟨_, _, fun_mk l34 c34 k34, PySem.W.mg_of X G a34⟩
    d35 := ⟨_, _, fun_mk l35 c35 k35, PySem.W.mg_of X G a35⟩
    d41 := ⟨_, _, fun_mk l41 c41 k41, PySem.W.mg_of X G a41⟩
    d42 := ⟨_, _, fun_mk l42 c42 k42, PySem.W.mg_of X G a42⟩
    d43 := ⟨_, _, fun_mk l43 c43 k43, PySem.W.mg_of X G a43⟩
    d44 := ⟨_, _, fun_mk l44 c44 k44, PySem.W.mg_of X G a44⟩
    d46 := ⟨_, _, fun_mk l46 c46 k46, PySem.W.mg_of X G a46⟩
    d47 := ⟨_, _, fun_mk l47 c47 k47, PySem.W.mg_of X G a47⟩
    d48 := ⟨_, _, fun_mk l48 c48 k48, PySem.W.mg_of X G a48⟩
    d49 := ⟨_, _, fun_mk l49 c49 k49, PySem.W.mg_of X G a49⟩
    d50 := ⟨_, _, fun_mk l50 c50 k50, PySem.W.mg_of X G a50⟩
    d51 := ⟨_, _, fun_mk l51 c51 k51, PySem.W.mg_of X G a51⟩
    d52 := ⟨_, _, fun_mk l52 c52 k52, PySem.W.mg_of X G a52⟩
    d53 := ⟨_, _, fun_mk l53 c53 k53, PySem.W.mg_of X G a53⟩
    d54 := ⟨_, _, fun_mk l54 c54 k54, PySem.W.mg_of X G a54⟩
    d55 := ⟨_, _, fun_mk l55 c55 k55, PySem.W.mg_of X G a55⟩
    d56 := ⟨_, _, fun_mk l56 c56 k56, PySem.W.mg_of X G a56⟩
    d57 := ⟨_, _, fun_mk l57 c57 k57, PySem.W.mg_of X G a57⟩
    d58 := ⟨_, _, fun_mk l58 c58 k58, PySem.W.mg_of X G a58⟩
    d59 := ⟨_, _, fun_mk l59 c59 k59, PySem.W.mg_of X G a59⟩
    d60 := ⟨_, _, fun_mk l60 c60 k60, PySem.W.mg_of X G a60⟩
    d61 := ⟨_, _, fun_mk l61 c61 k61, PySem.W.mg_of X G a61⟩
    d62 := ⟨_, _, fun_mk l62 c62 k62, PySem.W.mg_of X G a62⟩
    d63 := ⟨_, _, fun_mk l63 c63 k63, PySem.W.mg_of X G a63⟩
    d64 := ⟨_, _, fun_mk l64 c64 k64, PySem.W.mg_of X G a64⟩
    d65 := ⟨_, _, fun_mk l65 c65 k65, PySem.W.mg_of X G a65⟩
    d67 := ⟨_, _, fun_mk l67 c67 k67, PySem.W.mg_of X G a67⟩
    d68 := ⟨_, _, fun_mk l68 c68 k68, PySem.W.mg_of X G a68⟩
    d66 := ⟨_, _, _, _, _, _, _, _, _, l66, c66, PySem.W.mg_of X G a66, k66⟩
    d38 := ⟨_, _, _, _, _, _, _, _, _, _, l38, c38, PySem.W.mg_of X G a38, k38⟩
    dM := ⟨⟨_, _, fun_mk lM cdMh kfM, ⟨mkM, iM, fnM, kcM⟩⟩, PySem.W.mg_of X G aM⟩ }
  refine ⟨cG, PT, _, tG, nG, PySem.W.codeHd_of_K X hG, fun H a ns hl hP hs => ⟨a, ns, rfl, hs, hl, fun p hp => ?_, fun _ => rfl⟩, fun base _ _ TB => all_ok D T TE ⟨ndM, nnM, nsM⟩ ⟨ga, gg, exS, hdS⟩ noS TB⟩
  rw [List.mem_singleton.mp hp]
  exact LamX.TabS.nil hP
end EO
open PySem PySem.W PyProof.Rows
set_option maxHeartbeats 0 in
theorem PySem.Challenge.cw_eitheronce_k50_whole_breaches_against_li_holds : PySem.Challenge.rw_eitheronce_k50_whole_breaches_against_li.Holds := by
  w_on; o_law; k_head; (case hw => w_witness2)
  k_fill
  refine EO.walk_ofG (l := PySem.Challenge.rw_eitheronce_k50_whole_breaches_against_li) (n := 63) (k := 34) rfl (by decide) rfl ⟨rfl, by decide, by decide⟩ (fun w h Y => PySem.W.km_in_of Y) ?F
  case F =>
    intro w mg h Y KX G
    have hT := PySem.W.km_tabs_of Y
    refine' EO.all_mk KX G ?a14 ?l14 ?c14 ?k14 ?a15 ?l15 ?c15 ?k15 ?a16 ?l16 ?c16 ?k16 ?a17 ?l17 ?c17 ?k17 ?a18 ?l18 ?c18 ?k18 ?a19 ?l19 ?c19 ?k19 ?a23 ?l23 ?c23 ?k23 ?a24 ?l24 ?c24 ?k24 ?a25 ?l25 ?c25 ?k25 ?a26 ?l26 ?c26 ?k26 ?a27 ?l27 ?c27 ?k27 ?a29 ?l29 ?c29 ?k29 ?a31 ?l31 ?c31 ?k31 ?a32 ?l32 ?c32 ?k32 ?a33 ?l33 ?c33 ?k33 ?a34 ?l34 ?c34 ?k34 ?a35 ?l35 ?c35 ?k35 ?a41 ?l41 ?c41 ?k41 ?a42 ?l42 ?c42 ?k42 ?a43 ?l43 ?c43 ?k43 ?a44 ?l44 ?c44 ?k44 ?a46 ?l46 ?c46 ?k46 ?a47 ?l47 ?c47 ?k47 ?a48 ?l48 ?c48 ?k48 ?a49 ?l49 ?c49 ?k49 ?a50 ?l50 ?c50 ?k50 ?a51 ?l51 ?c51 ?k51 ?a52 ?l52 ?c52 ?k52 ?a53 ?l53 ?c53 ?k53 ?a54 ?l54 ?c54 ?k54 ?a55 ?l55 ?c55 ?k55 ?a56 ?l56 ?c56 ?k56 ?a57 ?l57 ?c57 ?k57 ?a58 ?l58 ?c58 ?k58 ?a59 ?l59 ?c59 ?k59 ?a60 ?l60 ?c60 ?k60 ?a61 ?l61 ?c61 ?k61 ?a62 ?l62 ?c62 ?k62 ?a63 ?l63 ?c63 ?k63 ?a64 ?l64 ?c64 ?k64 ?a65 ?l65 ?c65 ?k65 ?a67 ?l67 ?c67 ?k67 ?a68 ?l68 ?c68 ?k68 ?a66 ?l66 ?c66 ?k66 ?lG ?vG ?hG ?tG ?nG ?a38 ?l38 ?c38 ?k38 ?aM ?iM ?fnM ?lM ?cdMh ?kfM ?mkM ?pgM ?hdM ?poM ?saM ?kcM ?ndM ?nnM ?nsM ?haM ?hnM ?htM ?hmM ?ntM ?n_len ?n_isinstance ?n_tuple ?n_list ?n_range ?n_int ?n_str ?n_bool ?n_dict ?n_set ?n_enumerate ?n_abs ?n_all ?n_max ?n_min ?n_repr ?n_super ?v_LETTERS ?v_LONGEST ?v_MOST_STATES ?v_MOST_DEEDS ?v_MOST_TIMES ?v_DEEPEST ?v_MOST_BREACHED ?aS ?xS ?moS ?alS ?sbS ?iS ?lkS ?cdS ?lcS ?hvS ?hfS ?lccS ?noS ?saS ?tIS ?exS ?tyS ?kpS ?mcS ?emS ?aN ?xN ?moN ?alN ?sbN ?iN ?lkN ?cdN ?lcN ?hvN ?hfN ?lccN ?noN ?saN ?tIN ?exN ?tyN ?kpN ?mcN ?emN ?opq ?top ?ga ?gg ?hdS
    (case a14 => k_is)
    (case l14 => k_is)
    (case c14 => k_is)
    (case k14 => k_is)
    (case a15 => k_is)
    (case l15 => k_is)
    (case c15 => k_is)
    (case k15 => k_is)
    (case a16 => k_is)
    (case l16 => k_is)
    (case c16 => k_is)
    (case k16 => k_is)
    (case a17 => k_is)
    (case l17 => k_is)
    (case c17 => k_is)
    (case k17 => k_is)
    (case a18 => k_is)
    (case l18 => k_is)
    (case c18 => k_is)
    (case k18 => k_is)
    (case a19 => k_is)
    (case l19 => k_is)
    (case c19 => k_is)
    (case k19 => k_is)
    (case a23 => k_is)
    (case l23 => k_is)
    (case c23 => k_is)
    (case k23 => k_is)
    (case a24 => k_is)
    (case l24 => k_is)
    (case c24 => k_is)
    (case k24 => k_is)
    (case a25 => k_is)
    (case l25 => k_is)
    (case c25 => k_is)
    (case k25 => k_is)
    (case a26 => k_is)
    (case l26 => k_is)
    (case c26 => k_is)
    (case k26 => k_is)
    (case a27 => k_is)
    (case l27 => k_is)
    (case c27 => k_is)
    (case k27 => k_is)
    (case a29 => k_is)
    (case l29 => k_is)
    (case c29 => k_is)
    (case k29 => k_is)
    (case a31 => k_is)
    (case l31 => k_is)
    (case c31 => k_is)
    (case k31 => k_is)
    (case a32 => k_is)
    (case l32 => k_is)
    (case c32 => k_is)
    (case k32 => k_is)
    (case a33 => k_is)
    (case l33 => k_is)
    (case c33 => k_is)
    (case k33 => k_is)
    (case a34 => k_is)
    (case l34 => k_is)
    (case c34 => k_is)
    (case k34 => k_is)
    (case a35 => k_is)
    (case l35 => k_is)
    (case c35 => k_is)
    (case k35 => k_is)
    (case a41 => k_is)
    (case l41 => k_is)
    (case c41 => k_is)
    (case k41 => k_is)
    (case a42 => k_is)
    (case l42 => k_is)
    (case c42 => k_is)
    (case k42 => k_is)
    (case a43 => k_is)
    (case l43 => k_is)
    (case c43 => k_is)
    (case k43 => k_is)
    (case a44 => k_is)
    (case l44 => k_is)
    (case c44 => k_is)
    (case k44 => k_is)
    (case a46 => k_is)
    (case l46 => k_is)
    (case c46 => k_is)
    (case k46 => k_is)
    (case a47 => k_is)
    (case l47 => k_is)
    (case c47 => k_is)
    (case k47 => k_is)
    (case a48 => k_is)
    (case l48 => k_is)
    (case c48 => k_is)
    (case k48 => k_is)
    (case a49 => k_is)
    (case l49 => k_is)
    (case c49 => k_is)
    (case k49 => k_is)
    (case a50 => k_is)
    (case l50 => k_is)
    (case c50 => k_is)
    (case k50 => k_is)
    (case a51 => k_is)
    (case l51 => k_is)
    (case c51 => k_is)
    (case k51 => k_is)
    (case a52 => k_is)
    (case l52 => k_is)
    (case c52 => k_is)
    (case k52 => k_is)
    (case a53 => k_is)
    (case l53 => k_is)
    (case c53 => k_is)
    (case k53 => k_is)
    (case a54 => k_is)
    (case l54 => k_is)
    (case c54 => k_is)
    (case k54 => k_is)
    (case a55 => k_is)
    (case l55 => k_is)
    (case c55 => k_is)
    (case k55 => k_is)
    (case a56 => k_is)
    (case l56 => k_is)
    (case c56 => k_is)
    (case k56 => k_is)
    (case a57 => k_is)
    (case l57 => k_is)
    (case c57 => k_is)
    (case k57 => k_is)
    (case a58 => k_is)
    (case l58 => k_is)
    (case c58 => k_is)
    (case k58 => k_is)
    (case a59 => k_is)
    (case l59 => k_is)
    (case c59 => k_is)
    (case k59 => k_is)
    (case a60 => k_is)
    (case l60 => k_is)
    (case c60 => k_is)
    (case k60 => k_is)
    (case a61 => k_is)
    (case l61 => k_is)
    (case c61 => k_is)
    (case k61 => k_is)
    (case a62 => k_is)
    (case l62 => k_is)
    (case c62 => k_is)
    (case k62 => k_is)
    (case a63 => k_is)
    (case l63 => k_is)
    (case c63 => k_is)
    (case k63 => k_is)
    (case a64 => k_is)
    (case l64 => k_is)
    (case c64 => k_is)
    (case k64 => k_is)
    (case a65 => k_is)
    (case l65 => k_is)
    (case c65 => k_is)
    (case k65 => k_is)
    (case a67 => k_is)
    (case l67 => k_is)
    (case c67 => k_is)
    (case k67 => k_is)
    (case a68 => k_is)
    (case l68 => k_is)
    (case c68 => k_is)
    (case k68 => k_is)
    (case a66 => k_is)
    (case l66 => k_is)
    (case c66 => k_is)
    (case k66 => k_is)
    (case lG => k_is)
    (case vG => rfl)
    (case hG => kernel_rfl)
    (case tG => exact hT _ (by k_mem))
    (case nG => kernel_rfl)
    (case a38 => k_is)
    (case l38 => k_is)
    (case c38 => k_is)
    (case k38 => k_is)
    (case aM => k_is)
    (case iM => k_is)
    (case fnM => k_is)
    (case lM => k_is)
    (case cdMh => k_is)
    (case kfM => k_is)
    (case mkM => k_is)
    (case pgM => k_is)
    (case hdM => k_is)
    (case poM => k_is)
    (case saM => k_is)
    (case kcM => k_is)
    (case ndM => k_is)
    (case nnM => k_is)
    (case nsM => k_is)
    (case haM => k_is)
    (case hnM => k_is)
    (case htM => k_is)
    (case hmM => k_is)
    (case ntM => kernel_rfl)
    (case n_len => k_is)
    (case n_isinstance => k_is)
    (case n_tuple => k_is)
    (case n_list => k_is)
    (case n_range => k_is)
    (case n_int => k_is)
    (case n_str => k_is)
    (case n_bool => k_is)
    (case n_dict => k_is)
    (case n_set => k_is)
    (case n_enumerate => k_is)
    (case n_abs => k_is)
    (case n_all => k_is)
    (case n_max => k_is)
    (case n_min => k_is)
    (case n_repr => k_is)
    (case n_super => k_is)
    (case v_LETTERS => k_is)
    (case v_LONGEST => k_is)
    (case v_MOST_STATES => k_is)
    (case v_MOST_DEEDS => k_is)
    (case v_MOST_TIMES => k_is)
    (case v_DEEPEST => k_is)
    (case v_MOST_BREACHED => k_is)
    (case aS => k_is)
    (case xS => k_is)
    (case moS => k_is)
    (case alS => kernel_rfl)
    (case sbS => k_is)
    (case iS => k_is)
    (case lkS => k_is)
    (case cdS => k_is)
    (case lcS => k_is)
    (case hvS => rfl)
    (case hfS => kernel_rfl)
    (case lccS => k_is)
    (case noS => k_is)
    (case saS => k_is)
    (case tIS => k_is)
    (case exS => k_is)
    (case tyS => k_is)
    (case kpS => k_is)
    (case mcS => k_is)
    (case emS => kernel_rfl)
    (case aN => k_is)
    (case xN => k_is)
    (case moN => k_is)
    (case alN => kernel_rfl)
    (case sbN => k_is)
    (case iN => k_is)
    (case lkN => k_is)
    (case cdN => k_is)
    (case lcN => k_is)
    (case hvN => rfl)
    (case hfN => kernel_rfl)
    (case lccN => k_is)
    (case noN => k_is)
    (case saN => k_is)
    (case tIN => k_is)
    (case exN => k_is)
    (case tyN => k_is)
    (case kpN => k_is)
    (case mcN => k_is)
    (case emN => kernel_rfl)
    (case opq => k_is)
    (case top => kernel_rfl)
    (case ga => k_is)
    (case gg => k_is)
    (case hdS => k_is)
end
