import PyProof.Rows.All
import Wide.All
import OpenK.AllK
import Wide.FinOn
import HandS.ForMost
import HandS.ForExc
import HandS.IsInst
import HandS.TupAny
import HandS.RevRange
import HandS.Walk
import HandS.More
import HandS.Deep
import HandS.ExcField
import HandS.Evl
import KE.KExcSuper
import PySem.Challenge.RW_graftbook_k14_whole_distances
set_option Elab.async false
set_option linter.all false
/-! Forests, distances: plain Lean, no program in sight. -/
namespace K14
/-- a row of trees, from the left; the last tree is (w, c) -/
inductive Fo (W : Type) where
  | nil : Fo W
  | snoc (r : Fo W) (w : W) (c : Fo W) : Fo W
  deriving DecidableEq
namespace Fo
variable {W W' : Type}
def size : Fo W → Nat
  | nil => 0
  | snoc r _ c => r.size + c.size + 1
def app : Fo W → Fo W → Fo W
  | a, nil => a
  | a, snoc r w c => snoc (app a r) w c
theorem app_nil (a : Fo W) : app a nil = a := rfl
theorem app_snoc (a r c : Fo W) (w : W) : app a (snoc r w c) = snoc (app a r) w c := rfl
theorem nil_app : ∀ a : Fo W, app nil a = a
  | nil => rfl
  | snoc r w c => by rw [app_snoc, nil_app r]
theorem app_assoc (a b : Fo W) : ∀ c : Fo W, app (app a b) c = app a (app b c)
  | nil => rfl
  | snoc r w c => by rw [app_snoc, app_snoc, app_snoc, app_assoc a b r]
theorem size_app (a : Fo W) : ∀ b : Fo W, (app a b).size = a.size + b.size
  | nil => rfl
  | snoc r w c => by
    rw [app_snoc]
    show (app a r).size + c.size + 1 = a.size + (r.size + c.size + 1)
    rw [size_app a r]
    omega
theorem size_snoc (r c : Fo W) (w : W) : (snoc r w c).size = r.size + c.size + 1 := rfl
theorem size_nil : (nil : Fo W).size = 0 := rfl
theorem eq_nil_of_size {a : Fo W} (h : a.size = 0) : a = nil := by
  cases a with
  | nil => rfl
  | snoc r w c => rw [size_snoc] at h; omega
/-- the mirror -/
def mir : Fo W → Fo W
  | nil => nil
  | snoc r w c => app (snoc nil w (mir c)) (mir r)
theorem mir_app (a : Fo W) : ∀ b : Fo W, mir (app a b) = app (mir b) (mir a)
  | nil => by rw [app_nil]; show _ = app nil (mir a); rw [nil_app]
  | snoc r w c => by
    rw [app_snoc]
    show app (snoc nil w (mir c)) (mir (app a r)) = app (app (snoc nil w (mir c)) (mir r)) (mir a)
    rw [mir_app a r, app_assoc]
theorem mir_mir : ∀ a : Fo W, mir (mir a) = a
  | nil => rfl
  | snoc r w c => by
    show mir (app (snoc nil w (mir c)) (mir r)) = _
    rw [mir_app, mir_mir r]
    show app r (app (snoc nil w (mir (mir c))) (mir nil)) = _
    rw [mir_mir c]
    rfl
theorem size_mir : ∀ a : Fo W, (mir a).size = a.size
  | nil => rfl
  | snoc r w c => by
    show (app (snoc nil w (mir c)) (mir r)).size = r.size + c.size + 1
    rw [size_app, size_snoc, size_mir r, size_mir c, size_nil]
    omega
end Fo
open Fo
/-- prices: of dropping, of adding, of changing -/
structure Pr (W : Type) where
  drop : Int
  more : Int
  ch : W → W → Int
namespace Pr
variable {W : Type}
def turn (p : Pr W) : Pr W := ⟨p.more, p.drop, fun a b => p.ch b a⟩
end Pr
variable {W : Type} (p : Pr W)
/-- the least price between two forests, by the last nodes -/
def dist : Fo W → Fo W → Int
  | .nil, .nil => 0
  | .nil, .snoc s v e => dist .nil (app s e) + p.more
  | .snoc r w c, .nil => dist (app r c) .nil + p.drop
  | .snoc r w c, .snoc s v e => min (min (dist (app r c) (.snoc s v e) + p.drop) (dist (.snoc r w c) (app s e) + p.more)) (dist r s + dist c e + p.ch w v)
termination_by a b => a.size + b.size
decreasing_by all_goals (simp only [size_app, size_snoc, size_nil]; omega)
theorem dist_nn : dist p .nil .nil = 0 := by rw [dist]
theorem dist_ns (s e : Fo W) (v : W) : dist p .nil (.snoc s v e) = dist p .nil (app s e) + p.more := by rw [dist]
theorem dist_sn (r c : Fo W) (w : W) : dist p (.snoc r w c) .nil = dist p (app r c) .nil + p.drop := by rw [dist]
theorem dist_ss (r c s e : Fo W) (w v : W) : dist p (.snoc r w c) (.snoc s v e) =
    min (min (dist p (app r c) (.snoc s v e) + p.drop) (dist p (.snoc r w c) (app s e) + p.more)) (dist p r s + dist p c e + p.ch w v) := by rw [dist]
theorem dist_nil_left : ∀ b : Fo W, dist p .nil b = p.more * b.size
  | .nil => by rw [dist_nn, size_nil]; simp
  | .snoc s v e => by
    rw [dist_ns, dist_nil_left (app s e), size_app, size_snoc]
    rw [show ((s.size + e.size + 1 : Nat) : Int) = ((s.size + e.size : Nat) : Int) + 1 by omega, Int.mul_add, Int.mul_one]
termination_by b => b.size
decreasing_by simp only [size_app, size_snoc]; omega
/-- the last node of the left one is dropped, of the right one added -/
theorem dist_drop (r c b : Fo W) (w : W) : dist p (.snoc r w c) b ≤ dist p (app r c) b + p.drop := by
  cases b with
  | nil => rw [dist_sn]; exact Int.le_refl _
  | snoc s v e => rw [dist_ss]; omega
theorem dist_more (a s e : Fo W) (v : W) : dist p a (.snoc s v e) ≤ dist p a (app s e) + p.more := by
  cases a with
  | nil => rw [dist_ns]; exact Int.le_refl _
  | snoc r w c => rw [dist_ss]; omega
theorem dist_pair (r c s e : Fo W) (w v : W) : dist p (.snoc r w c) (.snoc s v e) ≤ dist p r s + dist p c e + p.ch w v := by rw [dist_ss]; omega
/-- what a distance is: one of three ways -/
theorem dist_cases (a b : Fo W) : (a = .nil ∧ b = .nil) ∨ (∃ r w c, a = .snoc r w c ∧ dist p a b = dist p (app r c) b + p.drop) ∨
    (∃ s v e, b = .snoc s v e ∧ dist p a b = dist p a (app s e) + p.more) ∨
    (∃ r w c s v e, a = .snoc r w c ∧ b = .snoc s v e ∧ dist p a b = dist p r s + dist p c e + p.ch w v) := by
  cases a with
  | nil =>
    cases b with
    | nil => exact .inl ⟨rfl, rfl⟩
    | snoc s v e => exact .inr (.inr (.inl ⟨s, v, e, rfl, dist_ns p s e v⟩))
  | snoc r w c =>
    cases b with
    | nil => exact .inr (.inl ⟨r, w, c, rfl, dist_sn p r c w⟩)
    | snoc s v e =>
      have h := dist_ss p r c s e w v
      by_cases h1 : dist p (.snoc r w c) (.snoc s v e) = dist p (app r c) (.snoc s v e) + p.drop
      · exact .inr (.inl ⟨r, w, c, rfl, h1⟩)
      · by_cases h2 : dist p (.snoc r w c) (.snoc s v e) = dist p (.snoc r w c) (app s e) + p.more
        · exact .inr (.inr (.inl ⟨s, v, e, rfl, h2⟩))
        · exact .inr (.inr (.inr ⟨r, w, c, s, v, e, rfl, rfl, by omega⟩))
/-- of joined forests it is at most the sum -/
theorem dist_app (a a' : Fo W) : ∀ b b' : Fo W, dist p (app a b) (app a' b') ≤ dist p a a' + dist p b b' := fun b b' => by
  rcases dist_cases p b b' with ⟨rfl, rfl⟩ | ⟨r, w, c, ha, e⟩ | ⟨s, v, c, hb, e⟩ | ⟨r, w, c, s, v, d, ha, hb, e⟩
  · rw [app_nil, app_nil, dist_nn]; omega
  · have ih := dist_app a a' (app r c) b'
    subst ha
    have h := dist_drop p (app a r) c (app a' b') w
    rw [app_snoc, e]
    rw [← app_assoc] at ih
    omega
  · have ih := dist_app a a' b (app s c)
    subst hb
    have h := dist_more p (app a b) (app a' s) c v
    rw [app_snoc, e]
    rw [← app_assoc] at ih
    omega
  · have ih := dist_app a a' r s
    subst ha hb
    have h := dist_pair p (app a r) c (app a' s) d w v
    rw [app_snoc, app_snoc, e]
    omega
termination_by b b' => b.size + b'.size
decreasing_by all_goals (subst_vars; simp only [size_app, size_snoc]; omega)
/-- a root anywhere is dropped -/
theorem dist_dropAt (a c : Fo W) (w : W) : ∀ b g : Fo W, dist p (app (.snoc a w c) b) g ≤ dist p (app (app a c) b) g + p.drop := fun b g => by
  cases b with
  | nil => exact dist_drop p a c g w
  | snoc r u x =>
    rcases dist_cases p (app (app a c) (.snoc r u x)) g with ⟨h, _⟩ | ⟨r', w', c', h, e⟩ | ⟨s, v, d, hb, e⟩ | ⟨r', w', c', s, v, d, h, hb, e⟩
    · rw [app_snoc] at h; cases h
    · rw [app_snoc] at h
      cases h
      have ih := dist_dropAt a c w (app r x) g
      have h2 := dist_drop p (app (.snoc a w c) r) x g u
      rw [← app_assoc, ← app_assoc] at ih
      rw [e, app_snoc]
      omega
    · have ih := dist_dropAt a c w (.snoc r u x) (app s d)
      subst hb
      have h2 := dist_more p (app (.snoc a w c) (.snoc r u x)) s d v
      omega
    · rw [app_snoc] at h
      cases h
      have ih := dist_dropAt a c w r s
      subst hb
      have h2 := dist_pair p (app (.snoc a w c) r) x s d u v
      rw [e, app_snoc]
      omega
termination_by b g => b.size + g.size
decreasing_by all_goals (subst_vars; simp only [size_app, size_snoc]; omega)
/-- both exchanged, with prices turned -/
theorem dist_turn : ∀ a b : Fo W, dist p.turn b a = dist p a b
  | .nil, .nil => by rw [dist_nn, dist_nn]
  | .nil, .snoc s v e => by rw [dist_ns, dist_sn, dist_turn .nil (app s e)]; rfl
  | .snoc r w c, .nil => by rw [dist_ns, dist_sn, dist_turn (app r c) .nil]; rfl
  | .snoc r w c, .snoc s v e => by
    rw [dist_ss, dist_ss, dist_turn (app r c) (.snoc s v e), dist_turn (.snoc r w c) (app s e), dist_turn r s, dist_turn c e]
    show min (min (_ + p.more) (_ + p.drop)) (_ + _ + p.ch w v) = _
    omega
termination_by a b => a.size + b.size
decreasing_by all_goals (simp only [size_app, size_snoc, size_nil]; omega)
/-- a root anywhere is added -/
theorem dist_moreAt (a c : Fo W) (w : W) (b g : Fo W) : dist p g (app (.snoc a w c) b) ≤ dist p g (app (app a c) b) + p.more := by
  have h := dist_dropAt p.turn a c w b g
  rw [dist_turn, dist_turn] at h
  exact h
/-- the mirror's distance -/
theorem dist_mir_le : ∀ a b : Fo W, dist p (mir a) (mir b) ≤ dist p a b := fun a b => by
  rcases dist_cases p a b with ⟨rfl, rfl⟩ | ⟨r, w, c, ha, e⟩ | ⟨s, v, d, hb, e⟩ | ⟨r, w, c, s, v, d, ha, hb, e⟩
  · exact Int.le_refl _
  · have ih := dist_mir_le (app r c) b
    subst ha
    have h := dist_dropAt p .nil (mir c) w (mir r) (mir b)
    rw [nil_app, ← mir_app] at h
    rw [e]
    show dist p (app (.snoc .nil w (mir c)) (mir r)) _ ≤ _
    omega
  · have ih := dist_mir_le a (app s d)
    subst hb
    have h := dist_moreAt p .nil (mir d) v (mir s) (mir a)
    rw [nil_app, ← mir_app] at h
    rw [e]
    show dist p _ (app (.snoc .nil v (mir d)) (mir s)) ≤ _
    omega
  · have ih1 := dist_mir_le r s
    have ih2 := dist_mir_le c d
    subst ha hb
    have h := dist_app p (.snoc .nil w (mir c)) (.snoc .nil v (mir d)) (mir r) (mir s)
    have h2 := dist_pair p .nil (mir c) .nil (mir d) w v
    rw [dist_nn] at h2
    rw [e]
    show dist p (app (.snoc .nil w (mir c)) (mir r)) (app (.snoc .nil v (mir d)) (mir s)) ≤ _
    omega
termination_by a b => a.size + b.size
decreasing_by all_goals (subst_vars; simp only [size_app, size_snoc]; omega)
theorem dist_mir (a b : Fo W) : dist p (mir a) (mir b) = dist p a b := by
  have h1 := dist_mir_le p a b
  have h2 := dist_mir_le p (mir a) (mir b)
  rw [mir_mir, mir_mir] at h2
  omega
/-- the other way for two last trees: their own distance -/
theorem dist_trees (r c s e : Fo W) (w v : W) : dist p (.snoc r w c) (.snoc s v e) =
    min (min (dist p (app r c) (.snoc s v e) + p.drop) (dist p (.snoc r w c) (app s e) + p.more)) (dist p r s + dist p (.snoc .nil w c) (.snoc .nil v e)) := by
  have h := dist_ss p r c s e w v
  have h1 := dist_app p r s (.snoc .nil w c) (.snoc .nil v e)
  have h2 := dist_pair p .nil c .nil e w v
  rw [dist_nn] at h2
  rw [app_snoc, app_snoc, app_nil, app_nil] at h1
  omega
/-! ### prices that are none below 0 -/
structure Pr.Nn (p : Pr W) : Prop where
  d : 0 ≤ p.drop
  m : 0 ≤ p.more
  c : ∀ a b, 0 ≤ p.ch a b
  s : ∀ a, p.ch a a = 0
theorem dist_nonneg {p : Pr W} (h : p.Nn) : ∀ a b : Fo W, 0 ≤ dist p a b := fun a b => by
  rcases dist_cases p a b with ⟨rfl, rfl⟩ | ⟨r, w, c, ha, e⟩ | ⟨s, v, d, hb, e⟩ | ⟨r, w, c, s, v, d, ha, hb, e⟩
  · rw [dist_nn]; omega
  · have ih := dist_nonneg h (app r c) b
    have := h.d
    omega
  · have ih := dist_nonneg h a (app s d)
    have := h.m
    omega
  · have ih1 := dist_nonneg h r s
    have ih2 := dist_nonneg h c d
    have := h.c w v
    omega
termination_by a b => a.size + b.size
decreasing_by all_goals (subst_vars; simp only [size_app, size_snoc]; omega)
theorem dist_self {p : Pr W} (h : p.Nn) : ∀ a : Fo W, dist p a a = 0
  | .nil => dist_nn p
  | .snoc r w c => by
    have h1 := dist_pair p r c r c w w
    rw [dist_self h r, dist_self h c, h.s] at h1
    have := dist_nonneg h (.snoc r w c) (.snoc r w c)
    omega
/-- no price 0: 0 of equal forests alone -/
theorem eq_of_dist {p : Pr W} (h : p.Nn) (hd : 1 ≤ p.drop) (hm : 1 ≤ p.more) (hc : ∀ a b, a ≠ b → 1 ≤ p.ch a b) : ∀ a b : Fo W, dist p a b = 0 → a = b := fun a b z => by
  rcases dist_cases p a b with ⟨rfl, rfl⟩ | ⟨r, w, c, ha, e⟩ | ⟨s, v, d, hb, e⟩ | ⟨r, w, c, s, v, d, ha, hb, e⟩
  · rfl
  · have := dist_nonneg h (app r c) b
    omega
  · have := dist_nonneg h a (app s d)
    omega
  · have n1 := dist_nonneg h r s
    have n2 := dist_nonneg h c d
    have n3 := h.c w v
    have e1 := eq_of_dist h hd hm hc r s (by omega)
    have e2 := eq_of_dist h hd hm hc c d (by omega)
    subst ha hb
    have e3 : w = v := Classical.byContradiction fun q => by
      have := hc w v q
      omega
    rw [e1, e2, e3]
termination_by a b => a.size + b.size
decreasing_by all_goals (subst_vars; simp only [size_snoc]; omega)
theorem dist_joined {p : Pr W} (h : p.Nn) (a b c : Fo W) : dist p (app a c) (app b c) ≤ dist p a b := by
  have h1 := dist_app p a b c c
  rw [dist_self h c] at h1
  omega
/-! ### rows of single nodes -/
def flat : List W → Fo W
  | [] => .nil
  | l => l.foldl (fun a w => .snoc a w .nil) .nil
theorem flat_concat (l : List W) (w : W) : flat (l ++ [w]) = .snoc (flat l) w .nil := by
  have e : ∀ l : List W, flat l = l.foldl (fun a w => .snoc a w .nil) .nil := fun l => by cases l <;> rfl
  rw [e, e, List.foldl_append]
  rfl
end K14
/-! Arrays of a forest by preorder and postorder: sizes, levels, numbers, first leaves; rows of children. -/
namespace K14
open Fo
namespace Fo
variable {W W' : Type}
/-- the labels by preorder, by postorder -/
def prw : Fo W → List W
  | nil => []
  | snoc r w c => prw r ++ w :: prw c
def pow : Fo W → List W
  | nil => []
  | snoc r w c => pow r ++ (pow c ++ [w])
theorem prw_len : ∀ F : Fo W, (prw F).length = F.size
  | nil => rfl
  | snoc r w c => by
    show (prw r ++ w :: prw c).length = r.size + c.size + 1
    rw [List.length_append, List.length_cons, prw_len r, prw_len c]
    omega
theorem pow_len : ∀ F : Fo W, (pow F).length = F.size
  | nil => rfl
  | snoc r w c => by
    show (pow r ++ (pow c ++ [w])).length = r.size + c.size + 1
    rw [List.length_append, List.length_append, pow_len r, pow_len c]
    rfl
theorem pow_app (a : Fo W) : ∀ b : Fo W, pow (app a b) = pow a ++ pow b
  | nil => (List.append_nil _).symm
  | snoc r w c => by
    show pow (app a r) ++ (pow c ++ [w]) = pow a ++ (pow r ++ (pow c ++ [w]))
    rw [pow_app a r, List.append_assoc]
/-- labels: numbers by preorder from q on; parents; sizes; levels; postorder numbers from o on; first leaves -/
def numb (q : Nat) : Fo W → Fo Int
  | nil => nil
  | snoc r _ c => snoc (numb q r) ((q + r.size : Nat) : Int) (numb (q + r.size + 1) c)
def parF (p : Int) (q : Nat) : Fo W → Fo Int
  | nil => nil
  | snoc r _ c => snoc (parF p q r) p (parF ((q + r.size : Nat) : Int) (q + r.size + 1) c)
def szF : Fo W → Fo Int
  | nil => nil
  | snoc r _ c => snoc (szF r) ((c.size + 1 : Nat) : Int) (szF c)
def lvF (d : Nat) : Fo W → Fo Int
  | nil => nil
  | snoc r _ c => snoc (lvF d r) (d : Int) (lvF (d + 1) c)
def poF (o : Nat) : Fo W → Fo Int
  | nil => nil
  | snoc r _ c => snoc (poF o r) ((o + r.size + c.size : Nat) : Int) (poF (o + r.size) c)
def leF (o : Nat) : Fo W → Fo Int
  | nil => nil
  | snoc r _ c => snoc (leF o r) ((o + r.size : Nat) : Int) (leF (o + r.size) c)
theorem numb_size : ∀ (F : Fo W) (q : Nat), (numb q F).size = F.size
  | nil, _ => rfl
  | snoc r w c, q => by
    show (numb q r).size + (numb (q + r.size + 1) c).size + 1 = _
    rw [numb_size r, numb_size c, size_snoc]
theorem parF_size : ∀ (F : Fo W) (p : Int) (q : Nat), (parF p q F).size = F.size
  | nil, _, _ => rfl
  | snoc r w c, p, q => by
    show (parF p q r).size + (parF _ (q + r.size + 1) c).size + 1 = _
    rw [parF_size r, parF_size c, size_snoc]
theorem szF_size : ∀ (F : Fo W), (szF F).size = F.size
  | nil => rfl
  | snoc r w c => by
    show (szF r).size + (szF c).size + 1 = _
    rw [szF_size r, szF_size c, size_snoc]
theorem lvF_size : ∀ (F : Fo W) (d : Nat), (lvF d F).size = F.size
  | nil, _ => rfl
  | snoc r w c, d => by
    show (lvF d r).size + (lvF (d + 1) c).size + 1 = _
    rw [lvF_size r, lvF_size c, size_snoc]
theorem poF_size : ∀ (F : Fo W) (o : Nat), (poF o F).size = F.size
  | nil, _ => rfl
  | snoc r w c, o => by
    show (poF o r).size + (poF (o + r.size) c).size + 1 = _
    rw [poF_size r, poF_size c, size_snoc]
theorem leF_size : ∀ (F : Fo W) (o : Nat), (leF o F).size = F.size
  | nil, _ => rfl
  | snoc r w c, o => by
    show (leF o r).size + (leF (o + r.size) c).size + 1 = _
    rw [leF_size r, leF_size c, size_snoc]
theorem leF_app (a : Fo W) (o : Nat) : ∀ b : Fo W, leF o (app a b) = app (leF o a) (leF (o + a.size) b)
  | nil => rfl
  | snoc r w c => by
    show snoc (leF o (app a r)) ((o + (app a r).size : Nat) : Int) (leF (o + (app a r).size) c) = snoc (app (leF o a) (leF (o + a.size) r)) ((o + a.size + r.size : Nat) : Int) (leF (o + a.size + r.size) c)
    rw [leF_app a o r, size_app, Nat.add_assoc]
/-- the way down to the last node: the parent of the roots, then the last root .. -/
def rp (p : Int) (q : Nat) : Fo W → List Int
  | nil => [p]
  | snoc r _ c => p :: rp ((q + r.size : Nat) : Int) (q + r.size + 1) c
/-- a new last node by preorder, at depth d on that way -/
def addAt (x : W) : Nat → Fo W → Fo W
  | 0, F => snoc F x nil
  | _ + 1, nil => nil
  | d + 1, snoc r w c => snoc r w (addAt x d c)
theorem addAt_ok (x : W) : ∀ (d : Nat) (F : Fo W) (p : Int) (q : Nat), d < (rp p q F).length →
    prw (addAt x d F) = prw F ++ [x] ∧ ∃ y, (rp p q F)[d]? = some y ∧ prw (parF p q (addAt x d F)) = prw (parF p q F) ++ [y] ∧ rp p q (addAt x d F) = (rp p q F).take (d + 1) ++ [((q + F.size : Nat) : Int)]
  | 0, nil, p, q, _ => ⟨rfl, p, rfl, rfl, rfl⟩
  | 0, snoc r w c, p, q, _ => ⟨rfl, p, rfl, rfl, rfl⟩
  | d + 1, nil, p, q, h => by
    have h' : d + 1 < 1 := h
    omega
  | d + 1, snoc r w c, p, q, h => by
    have h' : d < (rp ((q + r.size : Nat) : Int) (q + r.size + 1) c).length := Nat.lt_of_succ_lt_succ h
    obtain ⟨e1, y, e2, e3, e4⟩ := addAt_ok x d c _ _ h'
    refine ⟨?_, y, e2, ?_, ?_⟩
    · show prw r ++ w :: prw (addAt x d c) = (prw r ++ w :: prw c) ++ [x]
      rw [e1, List.append_assoc]
      rfl
    · show prw (parF p q r) ++ p :: prw (parF _ _ (addAt x d c)) = (prw (parF p q r) ++ p :: prw (parF _ _ c)) ++ [y]
      rw [e3, List.append_assoc]
      rfl
    · show p :: rp _ _ (addAt x d c) = p :: ((rp _ _ c).take (d + 1) ++ [_])
      rw [e4, show q + r.size + 1 + c.size = q + (snoc r w c).size by rw [size_snoc]; omega]
theorem size_addAt (x : W) {d : Nat} {F : Fo W} {p : Int} {q : Nat} (h : d < (rp p q F).length) : (addAt x d F).size = F.size + 1 := by
  have e := congrArg List.length (addAt_ok x d F p q h).1
  rw [prw_len, List.length_append, prw_len] at e
  exact e
end Fo
/-! ### the parents of a forest -/
/-- these are the parents of nodes by preorder, whatever the words are -/
def IsPar (W : Type) (ps : List Int) (ch : List Int) : Prop := ∀ ws : List W, ws.length = ps.length → ∃ F : Fo W, prw F = ws ∧ prw (parF (-1) 0 F) = ps ∧ (rp (-1) 0 F).take 8 = ch
theorem isPar_nil (W : Type) : IsPar W [] [-1] := fun ws h => ⟨.nil, (List.eq_nil_of_length_eq_zero h).symm, rfl, rfl⟩
theorem isPar_next {W : Type} {ps ch : List Int} {d : Nat} {y : Int} (h : IsPar W ps ch) (hd : ch[d]? = some y) : IsPar W (ps ++ [y]) ((ch.take (d + 1) ++ [(ps.length : Int)]).take 8) := fun ws hw => by
  rw [List.length_append] at hw
  have hne : ws ≠ [] := fun z => by rw [z] at hw; simp at hw
  have ews := (List.dropLast_concat_getLast hne).symm
  generalize ws.dropLast = us at ews
  generalize ws.getLast hne = x at ews
  subst ews
  rw [List.length_append] at hw
  have hu : us.length = ps.length := Nat.add_right_cancel hw
  obtain ⟨F, e1, e2, e3⟩ := h us hu
  obtain ⟨hl, _⟩ := List.getElem?_eq_some_iff.mp hd
  have hl8 : d < 8 ∧ d < (rp (-1) 0 F).length := by
    rw [← e3, List.length_take] at hl
    omega
  obtain ⟨a1, z, a2, a3, a4⟩ := addAt_ok x d F (-1) 0 hl8.2
  have ez : z = y := by
    rw [← e3, List.getElem?_take_of_lt hl8.1, a2] at hd
    exact Option.some.inj hd
  refine ⟨addAt x d F, by rw [a1, e1], by rw [a3, e2, ez], ?_⟩
  have hs : F.size = ps.length := by rw [← hu, ← e1, prw_len]
  rw [a4, ← e3, List.take_take, hs, Nat.zero_add, Nat.min_eq_left (by omega)]
/-! ### sizes -/
def gI (l : List Int) (i : Nat) : Int := l.getD i 0
theorem gI_app (A : List Int) (x : Int) (B : List Int) {i : Nat} (h : A.length = i) : gI (A ++ x :: B) i = x := by
  subst h
  simp [gI]
def szStep (ps : List Int) (k : Nat) (S : List Int) : List Int := if 0 ≤ gI ps k then S.set (gI ps k).toNat (gI S (gI ps k).toNat + gI S k) else S
def bump (A : List Int) (p n : Int) : List Int := if 0 ≤ p then A.set p.toNat (gI A p.toNat + n) else A
theorem bump_len (A : List Int) (p n : Int) : (bump A p n).length = A.length := by unfold bump; split <;> simp
theorem bump_bump (A : List Int) (p n m : Int) (h : p < A.length) : bump (bump A p n) p m = bump A p (n + m) := by
  unfold bump
  by_cases hp : 0 ≤ p
  · have hl : p.toNat < A.length := by omega
    rw [if_pos hp, if_pos hp, if_pos hp, List.set_set]
    congr 1
    simp [gI, List.getElem?_set, hl, Int.add_assoc]
  · rw [if_neg hp, if_neg hp, if_neg hp]
theorem range_split (q a b : Nat) : List.range' q (a + b + 1) = List.range' q a ++ (q + a) :: List.range' (q + a + 1) b := by
  rw [show a + b + 1 = a + (b + 1) by omega, ← List.range'_append_1]
  rfl
theorem sizes_block {W : Type} (ps : List Int) : ∀ (F : Fo W) (p : Int) (q : Nat) (PA PB A B : List Int), ps = PA ++ (prw (parF p q F) ++ PB) → PA.length = q → A.length = q → p < q →
    (List.range' q F.size).foldr (szStep ps) (A ++ (List.replicate F.size 1 ++ B)) = bump A p F.size ++ (prw (szF F) ++ B)
  | .nil, p, q, PA, PB, A, B, _, _, hA, hp => by
    show A ++ ([] ++ B) = bump A p 0 ++ ([] ++ B)
    congr 1
    unfold bump
    by_cases h : 0 ≤ p
    · have hl : p.toNat < A.length := by omega
      rw [if_pos h, Int.add_zero]
      simp [gI, hl]
    · rw [if_neg h]
  | .snoc r w c, p, q, PA, PB, A, B, e, hPA, hA, hp => by
    have e' : ps = PA ++ (prw (parF p q r) ++ (p :: prw (parF ((q + r.size : Nat) : Int) (q + r.size + 1) c) ++ PB)) := by
      rw [e]
      show PA ++ ((prw (parF p q r) ++ p :: prw (parF _ _ c)) ++ PB) = _
      rw [List.append_assoc]
    have er : (PA ++ prw (parF p q r)).length = q + r.size := by rw [List.length_append, hPA, prw_len, parF_size]
    have ec : ps = (PA ++ prw (parF p q r) ++ [p]) ++ (prw (parF ((q + r.size : Nat) : Int) (q + r.size + 1) c) ++ PB) := by
      rw [e']
      simp only [List.append_assoc, List.cons_append, List.nil_append]
    rw [size_snoc, range_split, List.foldr_append, List.foldr_cons]
    have s0 : A ++ (List.replicate (r.size + c.size + 1) (1 : Int) ++ B) = (A ++ List.replicate r.size 1 ++ [1]) ++ (List.replicate c.size 1 ++ B) := by
      rw [show r.size + c.size + 1 = r.size + (1 + c.size) by omega, ← List.replicate_append_replicate, ← List.replicate_append_replicate]
      simp only [List.append_assoc]
      rfl
    rw [s0, sizes_block ps c _ _ _ PB _ B ec (by rw [List.length_append, er]; rfl) (by simp [hA]; omega) (by omega)]
    have s1 : bump (A ++ List.replicate r.size (1 : Int) ++ [1]) ((q + r.size : Nat) : Int) c.size = A ++ List.replicate r.size 1 ++ [((c.size + 1 : Nat) : Int)] := by
      unfold bump
      have hl : (A ++ List.replicate r.size (1 : Int)).length = q + r.size := by simp [hA]
      rw [if_pos (by omega), Int.toNat_natCast, List.set_append_right _ _ (by omega), hl, Nat.sub_self, gI_app _ _ _ hl]
      show _ ++ [1 + (c.size : Int)] = _
      rw [show (1 : Int) + c.size = ((c.size + 1 : Nat) : Int) by omega]
    rw [s1]
    have s2 : szStep ps (q + r.size) ((A ++ List.replicate r.size (1 : Int) ++ [((c.size + 1 : Nat) : Int)]) ++ (prw (szF c) ++ B)) = bump A p ((c.size + 1 : Nat) : Int) ++ (List.replicate r.size 1 ++ (((c.size + 1 : Nat) : Int) :: prw (szF c) ++ B)) := by
      have g1 : gI ps (q + r.size) = p := by
        rw [e', ← List.append_assoc]
        exact gI_app _ _ _ er
      have g2 : gI ((A ++ List.replicate r.size (1 : Int) ++ [((c.size + 1 : Nat) : Int)]) ++ (prw (szF c) ++ B)) (q + r.size) = ((c.size + 1 : Nat) : Int) := by
        rw [List.append_assoc (A ++ List.replicate r.size (1 : Int))]
        exact gI_app _ _ _ (by simp [hA])
      unfold szStep bump
      rw [g1, g2]
      by_cases h : 0 ≤ p
      · have hl : p.toNat < A.length := by omega
        rw [if_pos h, if_pos h]
        have g3 : gI ((A ++ List.replicate r.size (1 : Int) ++ [((c.size + 1 : Nat) : Int)]) ++ (prw (szF c) ++ B)) p.toNat = gI A p.toNat := by
          simp [gI, List.getElem?_append, hl]
        rw [g3]
        simp only [List.append_assoc]
        rw [List.set_append_left _ _ hl]
        rfl
      · rw [if_neg h, if_neg h]
        simp only [List.append_assoc]
        rfl
    rw [s2, sizes_block ps r p q PA _ (bump A p _) _ e' hPA (by rw [bump_len, hA]) hp, bump_bump _ _ _ _ (by omega)]
    show _ = bump A p _ ++ ((prw (szF r) ++ ((c.size + 1 : Nat) : Int) :: prw (szF c)) ++ B)
    rw [List.append_assoc]
    congr 2
    omega
/-- the sizes that both programs reckon -/
def sizesOf (ps : List Int) : List Int := (List.range ps.length).foldr (szStep ps) (List.replicate ps.length 1)
theorem sizesOf_par {W : Type} (F : Fo W) : sizesOf (prw (parF (-1) 0 F)) = prw (szF F) := by
  have h := sizes_block (prw (parF (-1) 0 F)) F (-1) 0 [] [] [] [] (by simp) rfl rfl (by omega)
  unfold sizesOf
  rw [prw_len, parF_size, List.range_eq_range']
  simpa [bump] using h
/-! ### levels -/
def lvNext (L : List Int) (p : Int) : Int := if p < 0 then 0 else gI L p.toNat + 1
def levelsOf (ps : List Int) : List Int := ps.foldl (fun L p => L ++ [lvNext L p]) []
theorem levels_block {W : Type} : ∀ (F : Fo W) (p : Int) (q d : Nat) (L : List Int), L.length = q → p < q → lvNext L p = d →
    (prw (parF p q F)).foldl (fun L p => L ++ [lvNext L p]) L = L ++ prw (lvF d F)
  | .nil, p, q, d, L, _, _, _ => (List.append_nil L).symm
  | .snoc r w c, p, q, d, L, hL, hp, hd => by
    show (prw (parF p q r) ++ p :: prw (parF ((q + r.size : Nat) : Int) (q + r.size + 1) c)).foldl _ L = L ++ (prw (lvF d r) ++ (d : Int) :: prw (lvF (d + 1) c))
    rw [List.foldl_append, List.foldl_cons, levels_block r p q d L hL hp hd]
    have hl : (L ++ prw (lvF d r)).length = q + r.size := by rw [List.length_append, hL, prw_len, lvF_size]
    have e1 : lvNext (L ++ prw (lvF d r)) p = d := by
      rw [← hd]
      unfold lvNext
      by_cases h : p < 0
      · rw [if_pos h, if_pos h]
      · rw [if_neg h, if_neg h]
        have : p.toNat < L.length := by omega
        simp [gI, List.getElem?_append, this]
    rw [e1, levels_block c _ _ (d + 1) _ (by rw [List.length_append, hl]; rfl) (by omega)]
    · simp only [List.append_assoc, List.cons_append, List.nil_append]
    · unfold lvNext
      rw [if_neg (by omega), Int.toNat_natCast, gI_app _ _ _ hl]
      omega
theorem levelsOf_par {W : Type} (F : Fo W) : levelsOf (prw (parF (-1) 0 F)) = prw (lvF 0 F) := by
  have h := levels_block F (-1) 0 0 [] rfl (by omega) rfl
  simpa [levelsOf] using h
/-! ### numbers by postorder -/
def postsOf (S L : List Int) (n : Nat) : List Int := (List.range n).map fun k : Nat => (k : Int) + gI S k - 1 - gI L k
theorem posts_block {W : Type} (S L : List Int) : ∀ (F : Fo W) (q d o : Nat) (A B A' B' : List Int), S = A ++ (prw (szF F) ++ B) → A.length = q → L = A' ++ (prw (lvF d F) ++ B') → A'.length = q → o + d = q →
    (List.range' q F.size).map (fun k : Nat => (k : Int) + gI S k - 1 - gI L k) = prw (poF o F)
  | .nil, _, _, _, _, _, _, _, _, _, _, _, _ => rfl
  | .snoc r w c, q, d, o, A, B, A', B', eS, hA, eL, hA', ho => by
    have eS' : S = A ++ (prw (szF r) ++ (((c.size + 1 : Nat) : Int) :: prw (szF c) ++ B)) := by
      rw [eS]
      show A ++ ((prw (szF r) ++ ((c.size + 1 : Nat) : Int) :: prw (szF c)) ++ B) = _
      rw [List.append_assoc]
    have eL' : L = A' ++ (prw (lvF d r) ++ ((d : Int) :: prw (lvF (d + 1) c) ++ B')) := by
      rw [eL]
      show A' ++ ((prw (lvF d r) ++ (d : Int) :: prw (lvF (d + 1) c)) ++ B') = _
      rw [List.append_assoc]
    have h1 : (A ++ prw (szF r)).length = q + r.size := by rw [List.length_append, hA, prw_len, szF_size]
    have h2 : (A' ++ prw (lvF d r)).length = q + r.size := by rw [List.length_append, hA', prw_len, lvF_size]
    have g1 : gI S (q + r.size) = ((c.size + 1 : Nat) : Int) := by
      rw [eS', ← List.append_assoc]
      exact gI_app _ _ _ h1
    have g2 : gI L (q + r.size) = (d : Int) := by
      rw [eL', ← List.append_assoc]
      exact gI_app _ _ _ h2
    rw [size_snoc, range_split, List.map_append, List.map_cons, posts_block S L r q d o A _ A' _ eS' hA eL' hA' ho, g1, g2,
      posts_block S L c (q + r.size + 1) (d + 1) (o + r.size) (A ++ prw (szF r) ++ [((c.size + 1 : Nat) : Int)]) B (A' ++ prw (lvF d r) ++ [(d : Int)]) B'
        (by rw [eS']; simp only [List.append_assoc, List.cons_append, List.nil_append]) (by rw [List.length_append, h1]; rfl) (by rw [eL']; simp only [List.append_assoc, List.cons_append, List.nil_append]) (by rw [List.length_append, h2]; rfl) (by omega)]
    show _ = prw (poF o r) ++ ((o + r.size + c.size : Nat) : Int) :: prw (poF (o + r.size) c)
    congr 2
    omega
theorem postsOf_par {W : Type} (F : Fo W) : postsOf (prw (szF F)) (prw (lvF 0 F)) F.size = prw (poF 0 F) := by
  have h := posts_block (prw (szF F)) (prw (lvF 0 F)) F 0 0 0 [] [] [] [] (by simp) rfl (by simp) rfl rfl
  unfold postsOf
  rw [List.range_eq_range']
  exact h
/-! ### scattering by postorder numbers, gathering by preorder numbers -/
def scat {X : Type} (ps : List Int) (xs arr : List X) : List X := (ps.zip xs).foldl (fun a k => a.set k.1.toNat k.2) arr
/-- of one shape -/
def Sh {W X : Type} : Fo W → Fo X → Prop
  | .nil, .nil => True
  | .snoc r _ c, .snoc s _ e => Sh r s ∧ Sh c e
  | _, _ => False
theorem Sh.refl {W : Type} : ∀ F : Fo W, Sh F F
  | .nil => trivial
  | .snoc r _ c => ⟨Sh.refl r, Sh.refl c⟩
theorem Sh.size {W X : Type} : ∀ {F : Fo W} {G : Fo X}, Sh F G → F.size = G.size
  | .nil, .nil, _ => rfl
  | .snoc r _ c, .snoc s _ e, h => by rw [size_snoc, size_snoc, Sh.size h.1, Sh.size h.2]
theorem sh_numb {W : Type} : ∀ (F : Fo W) (q : Nat), Sh F (numb q F)
  | .nil, _ => trivial
  | .snoc r _ c, q => ⟨sh_numb r q, sh_numb c _⟩
theorem sh_leF {W : Type} : ∀ (F : Fo W) (q : Nat), Sh F (leF q F)
  | .nil, _ => trivial
  | .snoc r _ c, q => ⟨sh_leF r q, sh_leF c _⟩
theorem sh_szF {W : Type} : ∀ (F : Fo W), Sh F (szF F)
  | .nil => trivial
  | .snoc r _ c => ⟨sh_szF r, sh_szF c⟩
theorem scat_app {X : Type} (ps ps' : List Int) (xs xs' arr : List X) (h : ps.length = xs.length) : scat (ps ++ ps') (xs ++ xs') arr = scat ps' xs' (scat ps xs arr) := by
  unfold scat
  rw [List.zip_append h, List.foldl_append]
theorem scat_cons {X : Type} (p : Int) (ps : List Int) (x : X) (xs arr : List X) : scat (p :: ps) (x :: xs) arr = scat ps xs (arr.set p.toNat x) := rfl
theorem scat_block {X W : Type} : ∀ (F : Fo W) (G : Fo X) (o : Nat) (A Y B : List X), Sh F G → A.length = o → Y.length = F.size →
    scat (prw (poF o F)) (prw G) (A ++ (Y ++ B)) = A ++ (pow G ++ B)
  | .nil, .nil, _, A, Y, B, _, _, hY => by
    have e : Y = [] := List.eq_nil_of_length_eq_zero hY
    subst e
    rfl
  | .snoc r w c, .snoc s v e, o, A, Y, B, h, hA, hY => by
    have hr := h.1.size
    have hc := h.2.size
    rw [size_snoc] at hY
    have hY3 : Y.drop (r.size + c.size) ≠ [] := fun z => by
      have := congrArg List.length z
      rw [List.length_drop] at this
      simp at this
      omega
    obtain ⟨y, r3, ey⟩ : ∃ y r3, Y.drop (r.size + c.size) = y :: r3 := by
      cases q : Y.drop (r.size + c.size) with
      | nil => exact absurd q hY3
      | cons y r3 => exact ⟨y, r3, rfl⟩
    have er3 : r3 = [] := by
      have := congrArg List.length ey
      rw [List.length_drop, List.length_cons] at this
      exact List.eq_nil_of_length_eq_zero (by omega)
    subst er3
    have eY : Y = Y.take r.size ++ ((Y.drop r.size).take c.size ++ [y]) := by
      rw [← ey, ← List.drop_drop, List.take_append_drop, List.take_append_drop]
    have l1 : (Y.take r.size).length = r.size := by rw [List.length_take]; omega
    have l2 : ((Y.drop r.size).take c.size).length = c.size := by rw [List.length_take, List.length_drop]; omega
    generalize Y.take r.size = Y1 at eY l1
    generalize (Y.drop r.size).take c.size = Y2 at eY l2
    subst eY
    show scat (prw (poF o r) ++ ((o + r.size + c.size : Nat) : Int) :: prw (poF (o + r.size) c)) (prw s ++ v :: prw e) _ = A ++ ((pow s ++ (pow e ++ [v])) ++ B)
    rw [scat_app _ _ _ _ _ (by rw [prw_len, prw_len, poF_size, hr]), scat_cons]
    have e1 : A ++ ((Y1 ++ (Y2 ++ [y])) ++ B) = A ++ (Y1 ++ (Y2 ++ y :: B)) := by simp only [List.append_assoc, List.cons_append, List.nil_append]
    rw [e1, scat_block r s o A Y1 _ h.1 hA l1]
    have hl : (A ++ pow s).length = o + r.size := by rw [List.length_append, hA, pow_len, hr]
    have e2 : (A ++ (pow s ++ (Y2 ++ y :: B))).set ((o + r.size + c.size : Nat) : Int).toNat v = (A ++ pow s) ++ (Y2 ++ v :: B) := by
      rw [Int.toNat_natCast, ← List.append_assoc, ← List.append_assoc, List.set_append_right _ _ (by rw [List.length_append, hl, l2]; omega)]
      rw [List.length_append, hl, l2, Nat.sub_self, ← List.append_assoc]
      rfl
    rw [e2, scat_block c e (o + r.size) (A ++ pow s) Y2 _ h.2 hl l2]
    simp only [List.append_assoc, List.cons_append, List.nil_append]
theorem scat_all {X W : Type} (F : Fo W) (G : Fo X) (Y : List X) (h : Sh F G) (hY : Y.length = F.size) : scat (prw (poF 0 F)) (prw G) Y = pow G := by
  have e := scat_block F G 0 [] Y [] h rfl hY
  simpa using e
/-- the labels at preorder numbers -/
theorem gath_block {X W : Type} (z : X) (arr : List X) : ∀ (F : Fo W) (G : Fo X) (q : Nat) (A B : List X), Sh F G → arr = A ++ (prw G ++ B) → A.length = q → (pow (numb q F)).map (fun k => arr.getD k.toNat z) = pow G
  | .nil, .nil, _, _, _, _, _, _ => rfl
  | .snoc r w c, .snoc s v e, q, A, B, h, ha, hA => by
    have hr := h.1.size
    have ha' : arr = A ++ (prw s ++ (v :: prw e ++ B)) := by
      rw [ha]
      show A ++ ((prw s ++ v :: prw e) ++ B) = _
      rw [List.append_assoc]
    have hl : (A ++ prw s).length = q + r.size := by rw [List.length_append, hA, prw_len, hr]
    show (pow (numb q r) ++ (pow (numb (q + r.size + 1) c) ++ [((q + r.size : Nat) : Int)])).map _ = pow s ++ (pow e ++ [v])
    rw [List.map_append, List.map_append, gath_block z arr r s q A _ h.1 ha' hA, gath_block z arr c e (q + r.size + 1) (A ++ prw s ++ [v]) B h.2 (by rw [ha']; simp only [List.append_assoc, List.cons_append, List.nil_append]) (by rw [List.length_append, hl]; rfl)]
    congr 2
    show [arr.getD ((q + r.size : Nat) : Int).toNat z] = [v]
    rw [Int.toNat_natCast, ha', ← List.append_assoc]
    congr 1
    simp [← hl]
theorem gath_all {X W : Type} (z : X) (F : Fo W) (G : Fo X) (h : Sh F G) : (pow (numb 0 F)).map (fun k => (prw G).getD k.toNat z) = pow G :=
  gath_block z (prw G) F G 0 [] [] h (by simp) rfl
theorem numb_prw {W : Type} : ∀ (F : Fo W) (q : Nat), prw (numb q F) = (List.range' q F.size).map fun k : Nat => (k : Int)
  | .nil, _ => rfl
  | .snoc r w c, q => by
    rw [size_snoc, range_split, List.map_append, List.map_cons, ← numb_prw r q, ← numb_prw c _]
    rfl
/-! ### first leaves -/
theorem leaves_pre {W : Type} : ∀ (F : Fo W) (o : Nat), List.zipWith (fun a s : Int => a - s + 1) (prw (poF o F)) (prw (szF F)) = prw (leF o F)
  | .nil, _ => rfl
  | .snoc r w c, o => by
    show List.zipWith _ (prw (poF o r) ++ ((o + r.size + c.size : Nat) : Int) :: prw (poF (o + r.size) c)) (prw (szF r) ++ ((c.size + 1 : Nat) : Int) :: prw (szF c)) = prw (leF o r) ++ ((o + r.size : Nat) : Int) :: prw (leF (o + r.size) c)
    rw [List.zipWith_append (by rw [prw_len, prw_len, poF_size, szF_size]), List.zipWith_cons_cons, leaves_pre r o, leaves_pre c]
    congr 2
    omega
theorem leaves_post {W : Type} : ∀ (F : Fo W) (o : Nat), List.zipWith (fun (i : Nat) (s : Int) => (i : Int) - s + 1) (List.range' o F.size) (pow (szF F)) = pow (leF o F)
  | .nil, _ => rfl
  | .snoc r w c, o => by
    have e : List.range' o (r.size + c.size + 1) = List.range' o r.size ++ (List.range' (o + r.size) c.size ++ [o + r.size + c.size]) := by
      rw [show r.size + c.size + 1 = r.size + (c.size + 1) by omega, ← List.range'_append_1, ← List.range'_append_1]
      rfl
    show List.zipWith _ (List.range' o (r.size + c.size + 1)) (pow (szF r) ++ (pow (szF c) ++ [((c.size + 1 : Nat) : Int)])) = pow (leF o r) ++ (pow (leF (o + r.size) c) ++ [((o + r.size : Nat) : Int)])
    rw [e, List.zipWith_append (by rw [pow_len, szF_size, List.length_range']), List.zipWith_append (by rw [pow_len, szF_size, List.length_range']), leaves_post r o, leaves_post c]
    congr 2
    show [((o + r.size + c.size : Nat) : Int) - ((c.size + 1 : Nat) : Int) + 1] = [((o + r.size : Nat) : Int)]
    congr 1
    omega
/-! ### rows of children -/
/-- one node k is put into its parent's row (n: the row of the roots) -/
def rowStep {T : Type} (mk : Nat → List T → T) (put : T → List T → List T) (ps : List Int) (n k : Nat) (R : Nat → List T) : Nat → List T := fun i =>
  if i = (if gI ps k < 0 then n else (gI ps k).toNat) then put (mk k (R k)) (R i) else R i
def rowIx (n : Nat) (p : Int) : Nat := if p < 0 then n else p.toNat
/-- what the roots of F make of a row -/
def comb {T : Type} (mk : Nat → List T → T) (put : T → List T → List T) : Fo Int → List T → List T
  | .nil, acc => acc
  | .snoc r k c, acc => comb mk put r (put (mk k.toNat (comb mk put c [])) acc)
theorem rows_block {T W : Type} (mk : Nat → List T → T) (put : T → List T → List T) (ps : List Int) (n : Nat) : ∀ (F : Fo W) (p : Int) (q : Nat) (PA PB : List Int) (R : Nat → List T),
    ps = PA ++ (prw (parF p q F) ++ PB) → PA.length = q → p < q → q + F.size ≤ n → (∀ i, q ≤ i → i < q + F.size → R i = []) →
    ((List.range' q F.size).foldr (rowStep mk put ps n) R) (rowIx n p) = comb mk put (numb q F) (R (rowIx n p)) ∧
    ∀ i, (i < q ∨ q + F.size ≤ i) → i ≠ rowIx n p → ((List.range' q F.size).foldr (rowStep mk put ps n) R) i = R i
  | .nil, p, q, PA, PB, R, _, _, _, _, _ => ⟨rfl, fun _ _ _ => rfl⟩
  | .snoc r w c, p, q, PA, PB, R, e, hPA, hp, hn, h0 => by
    have e' : ps = PA ++ (prw (parF p q r) ++ (p :: prw (parF ((q + r.size : Nat) : Int) (q + r.size + 1) c) ++ PB)) := by
      rw [e]
      show PA ++ ((prw (parF p q r) ++ p :: prw (parF _ _ c)) ++ PB) = _
      rw [List.append_assoc]
    have er : (PA ++ prw (parF p q r)).length = q + r.size := by rw [List.length_append, hPA, prw_len, parF_size]
    have ec : ps = (PA ++ prw (parF p q r) ++ [p]) ++ (prw (parF ((q + r.size : Nat) : Int) (q + r.size + 1) c) ++ PB) := by
      rw [e']
      simp only [List.append_assoc, List.cons_append, List.nil_append]
    rw [size_snoc] at hn h0 ⊢
    rw [range_split, List.foldr_append, List.foldr_cons]
    have ix : rowIx n ((q + r.size : Nat) : Int) = q + r.size := by unfold rowIx; rw [if_neg (by omega), Int.toNat_natCast]
    obtain ⟨c1, c2⟩ := rows_block mk put ps n c ((q + r.size : Nat) : Int) (q + r.size + 1) _ PB R ec (by rw [List.length_append, er]; rfl) (by omega) (by omega) (fun i h1 h2 => h0 i (by omega) (by omega))
    rw [ix] at c1 c2
    generalize (List.range' (q + r.size + 1) c.size).foldr (rowStep mk put ps n) R = R1 at c1 c2 ⊢
    have g1 : gI ps (q + r.size) = p := by
      rw [e', ← List.append_assoc]
      exact gI_app _ _ _ er
    have hP : rowIx n p < q ∨ q + (r.size + c.size + 1) ≤ rowIx n p := by unfold rowIx; split <;> omega
    rw [h0 (q + r.size) (by omega) (by omega)] at c1
    have R1P : R1 (rowIx n p) = R (rowIx n p) := c2 _ (by omega) (by omega)
    have s1 : ∀ i, rowStep mk put ps n (q + r.size) R1 i = if i = rowIx n p then put (mk (q + r.size) (comb mk put (numb (q + r.size + 1) c) [])) (R1 i) else R1 i := fun i => by
      unfold rowStep rowIx
      rw [g1, c1]
    obtain ⟨r1, r2⟩ := rows_block mk put ps n r p q PA _ (rowStep mk put ps n (q + r.size) R1) e' hPA hp (by omega) (fun i h1 h2 => by
      rw [s1, if_neg (by omega), c2 i (by omega) (by omega), h0 i h1 (by omega)])
    refine ⟨?_, fun i hi hne => ?_⟩
    · rw [r1, s1, if_pos rfl, R1P]
      show comb mk put (numb q r) _ = comb mk put (numb q r) (put (mk ((q + r.size : Nat) : Int).toNat _) _)
      rw [Int.toNat_natCast]
    · rw [r2 i (by omega) hne, s1, if_neg hne, c2 i (by omega) (by omega)]
/-- all nodes, from rows that are empty -/
theorem rows_all {T W : Type} (mk : Nat → List T → T) (put : T → List T → List T) (F : Fo W) :
    ((List.range F.size).foldr (rowStep mk put (prw (parF (-1) 0 F)) F.size) (fun _ => [])) F.size = comb mk put (numb 0 F) [] := by
  have h := (rows_block mk put (prw (parF (-1) 0 F)) F.size F (-1) 0 [] [] (fun _ => []) (by simp) rfl (by omega) (by omega) fun _ _ _ => rfl).1
  rw [List.range_eq_range']
  exact h
end K14
/-! Stretches of a forest's postorder, the law's table, rows of words, prices. -/
namespace K14
open Fo
variable {W : Type}
theorem snoc_app (r c : Fo W) (w : W) : snoc r w c = app r (snoc nil w c) := rfl
theorem pow_snoc (r c : Fo W) (w : W) : pow (snoc r w c) = pow (app r c) ++ [w] := by
  rw [pow_app, List.append_assoc]
  rfl
theorem leF_snoc (o : Nat) (r c : Fo W) (w : W) : pow (leF o (snoc r w c)) = pow (leF o (app r c)) ++ [((o + r.size : Nat) : Int)] := by
  rw [leF_app, pow_app, List.append_assoc]
  rfl
/-- in the arrays of words and first leaves stands F, from o on -/
def Seg (ws : List W) (ls : List Int) (o : Nat) (F : Fo W) : Prop := ∃ A B A' B', ws = A ++ (pow F ++ B) ∧ A.length = o ∧ ls = A' ++ (pow (leF o F) ++ B') ∧ A'.length = o
section
variable {ws : List W} {ls : List Int} {o : Nat}
theorem seg_whole (F : Fo W) : Seg (pow F) (pow (leF 0 F)) 0 F := ⟨[], [], [], [], by simp, rfl, by simp, rfl⟩
theorem Seg.left {a b : Fo W} : Seg ws ls o (app a b) → Seg ws ls o a := fun ⟨A, B, A', B', e, h, e', h'⟩ => ⟨A, pow b ++ B, A', pow (leF (o + a.size) b) ++ B', by rw [e, pow_app, List.append_assoc], h, by rw [e', leF_app, pow_app, List.append_assoc], h'⟩
theorem Seg.right {a b : Fo W} : Seg ws ls o (app a b) → Seg ws ls (o + a.size) b := fun ⟨A, B, A', B', e, h, e', h'⟩ =>
  ⟨A ++ pow a, B, A' ++ pow (leF o a), B', by rw [e, pow_app]; simp only [List.append_assoc], by rw [List.length_append, h, pow_len], by rw [e', leF_app, pow_app]; simp only [List.append_assoc], by rw [List.length_append, h', pow_len, leF_size]⟩
theorem Seg.front {r c : Fo W} {w : W} : Seg ws ls o (snoc r w c) → Seg ws ls o (app r c) := fun ⟨A, B, A', B', e, h, e', h'⟩ =>
  ⟨A, w :: B, A', ((o + r.size : Nat) : Int) :: B', by rw [e, pow_snoc, List.append_assoc]; rfl, h, by rw [e', leF_snoc, List.append_assoc]; rfl, h'⟩
theorem get_mid {X : Type} {A B : List X} {x : X} {i : Nat} (h : A.length = i) : (A ++ x :: B)[i]? = some x := by
  subst h
  simp
theorem Seg.word {r c : Fo W} {w : W} : Seg ws ls o (snoc r w c) → ws[o + r.size + c.size]? = some w := fun ⟨A, B, A', B', e, h, e', h'⟩ => by
  rw [e, pow_snoc, List.append_assoc, ← List.append_assoc]
  exact get_mid (by rw [List.length_append, h, pow_len, size_app, Nat.add_assoc])
theorem Seg.leaf {r c : Fo W} {w : W} : Seg ws ls o (snoc r w c) → ls[o + r.size + c.size]? = some ((o + r.size : Nat) : Int) := fun ⟨A, B, A', B', e, h, e', h'⟩ => by
  rw [e', leF_snoc, List.append_assoc, ← List.append_assoc]
  exact get_mid (by rw [List.length_append, h', pow_len, leF_size, size_app, Nat.add_assoc])
theorem Seg.tree {r c : Fo W} {w : W} (h : Seg ws ls o (snoc r w c)) : Seg ws ls (o + r.size) (snoc nil w c) := Seg.right (a := r) h
theorem Seg.below {r c : Fo W} {w : W} (h : Seg ws ls o (snoc r w c)) : Seg ws ls (o + r.size) c := h.front.right
theorem Seg.ahead {r c : Fo W} {w : W} (h : Seg ws ls o (snoc r w c)) : Seg ws ls o r := h.front.left
theorem Seg.le {F : Fo W} : Seg ws ls o F → o + F.size ≤ ws.length ∧ o + F.size ≤ ls.length := fun ⟨A, B, A', B', e, h, e', h'⟩ => by
  rw [e, e', List.length_append, List.length_append, List.length_append, List.length_append, pow_len, pow_len, leF_size]
  omega
theorem pow_inj : ∀ (F G : Fo W) (o : Nat), pow F = pow G → pow (leF o F) = pow (leF o G) → F = G
  | nil, nil, _, _, _ => rfl
  | nil, snoc s v e, _, h, _ => by
    have := congrArg List.length h
    rw [pow_len, pow_len, size_snoc, size_nil] at this
    omega
  | snoc r w c, nil, _, h, _ => by
    have := congrArg List.length h
    rw [pow_len, pow_len, size_snoc, size_nil] at this
    omega
  | snoc r w c, snoc s v e, o, h, h' => by
    have hz := congrArg List.length h
    rw [pow_len, pow_len, size_snoc, size_snoc] at hz
    have h1 : pow r ++ (pow c ++ [w]) = pow s ++ (pow e ++ [v]) := h
    have h2 : pow (leF o r) ++ (pow (leF (o + r.size) c) ++ [((o + r.size : Nat) : Int)]) = pow (leF o s) ++ (pow (leF (o + s.size) e) ++ [((o + s.size : Nat) : Int)]) := h'
    have hl : r.size = s.size := by
      have q := congrArg List.getLast? h2
      simp only [← List.append_assoc, List.getLast?_concat, Option.some.injEq] at q
      omega
    have hc : c.size = e.size := by omega
    obtain ⟨a1, a2⟩ := List.append_inj h1 (by rw [pow_len, pow_len, hl])
    obtain ⟨a3, a4⟩ := List.append_inj a2 (by rw [pow_len, pow_len, hc])
    obtain ⟨b1, b2⟩ := List.append_inj h2 (by rw [pow_len, pow_len, leF_size, leF_size, hl])
    obtain ⟨b3, b4⟩ := List.append_inj b2 (by rw [pow_len, pow_len, leF_size, leF_size, hc])
    rw [← hl] at b3
    rw [pow_inj r s o a1 b1, pow_inj c e _ a3 b3, List.cons.inj a4 |>.1]
theorem Seg.uniq {F G : Fo W} (h : Seg ws ls o F) (h2 : Seg ws ls o G) (hz : F.size = G.size) : F = G := by
  obtain ⟨A, B, A', B', e, l, e', l'⟩ := h
  obtain ⟨C, D, C', D', f, m, f', m'⟩ := h2
  obtain ⟨_, a2⟩ := List.append_inj (e.symm.trans f) (by rw [l, m])
  obtain ⟨b1, _⟩ := List.append_inj a2 (by rw [pow_len, pow_len, hz])
  obtain ⟨_, c2⟩ := List.append_inj (e'.symm.trans f') (by rw [l', m'])
  obtain ⟨d1, _⟩ := List.append_inj c2 (by rw [pow_len, pow_len, leF_size, leF_size, hz])
  exact pow_inj F G o b1 d1
end
/-- the first x nodes by postorder -/
def tk : Fo W → Nat → Fo W
  | .nil, _ => .nil
  | .snoc r w c, x => if x ≤ r.size + c.size then tk (app r c) x else .snoc r w c
termination_by F => F.size
decreasing_by simp only [size_app, size_snoc]; omega
theorem tk_nil (x : Nat) : tk (nil : Fo W) x = nil := by rw [tk]
theorem tk_snoc (r c : Fo W) (w : W) (x : Nat) : tk (snoc r w c) x = if x ≤ r.size + c.size then tk (app r c) x else snoc r w c := by rw [tk]
theorem tk_size : ∀ (F : Fo W) (x : Nat), x ≤ F.size → (tk F x).size = x
  | .nil, x, h => by
    rw [tk_nil]
    rw [size_nil] at h ⊢
    omega
  | .snoc r w c, x, h => by
    rw [size_snoc] at h
    rw [tk_snoc]
    by_cases q : x ≤ r.size + c.size
    · rw [if_pos q]
      exact tk_size (app r c) x (by rw [size_app]; exact q)
    · rw [if_neg q, size_snoc]
      omega
termination_by F => F.size
decreasing_by simp only [size_app, size_snoc]; omega
theorem tk_all (F : Fo W) : tk F F.size = F := by
  cases F with
  | nil => exact tk_nil _
  | snoc r w c => rw [tk_snoc, size_snoc, if_neg (by omega)]
theorem tk_zero (F : Fo W) : tk F 0 = nil := eq_nil_of_size (tk_size F 0 (Nat.zero_le _))
theorem Seg.tk {ws : List W} {ls : List Int} {o : Nat} : ∀ {F : Fo W} (x : Nat), Seg ws ls o F → Seg ws ls o (tk F x)
  | .nil, x, h => by rw [tk_nil]; exact h
  | .snoc r w c, x, h => by
    rw [tk_snoc]
    by_cases q : x ≤ r.size + c.size
    · rw [if_pos q]
      exact Seg.tk x h.front
    · rw [if_neg q]
      exact h
termination_by F => F.size
decreasing_by simp only [size_app, size_snoc]; omega
def lastTree : Fo W → Fo W
  | .nil => .nil
  | .snoc _ w c => .snoc .nil w c
/-- one node more -/
theorem tk_next {ws : List W} {ls : List Int} {o : Nat} {F : Fo W} (h : Seg ws ls o F) {x : Nat} (hx : x < F.size) :
    ∃ r w c, K14.tk F (x + 1) = snoc r w c ∧ K14.tk F x = app r c ∧ r.size + c.size = x ∧ K14.tk F r.size = r ∧ ws[o + x]? = some w ∧ ls[o + x]? = some ((o + r.size : Nat) : Int) ∧ Seg ws ls (o + r.size) (snoc nil w c) := by
  have s1 := h.tk (x + 1)
  have z1 := tk_size F (x + 1) hx
  cases q : K14.tk F (x + 1) with
  | nil => rw [q, size_nil] at z1; omega
  | snoc r w c =>
    rw [q] at s1 z1
    rw [size_snoc] at z1
    have hs : r.size + c.size = x := by omega
    refine ⟨r, w, c, rfl, ?_, hs, ?_, ?_, ?_, s1.tree⟩
    · exact (h.tk x).uniq s1.front (by rw [tk_size F x (by omega), size_app, hs])
    · exact (h.tk r.size).uniq s1.ahead (tk_size F _ (by omega))
    · rw [← hs, ← Nat.add_assoc]
      exact s1.word
    · rw [← hs, ← Nat.add_assoc]
      exact s1.leaf
/-- the distance of the trees of two nodes by postorder -/
def TD (p : Pr W) (F G : Fo W) (i j : Nat) : Int := dist p (lastTree (tk F (i + 1))) (lastTree (tk G (j + 1)))
theorem lastTree_sub {ws : List W} {ls : List Int} {o : Nat} {F H : Fo W} (hF : Seg ws ls 0 F) (h : Seg ws ls o H) {x : Nat} (hx : x < H.size) (hz : ws.length = F.size) : lastTree (tk F (o + x + 1)) = lastTree (tk H (x + 1)) := by
  obtain ⟨r, w, c, e1, _, e2, _, _, e4, e5⟩ := tk_next h hx
  have hl := h.le.1
  obtain ⟨s, v, d, f1, _, f2, _, _, f4, f5⟩ := tk_next hF (x := o + x) (by omega)
  rw [e1, f1]
  show snoc nil v d = snoc nil w c
  rw [Nat.zero_add] at f4 f5
  rw [e4] at f4
  have q : o + r.size = 0 + s.size := by
    have := Option.some.inj f4
    omega
  rw [q, Nat.zero_add] at e5
  exact f5.uniq e5 (by rw [size_snoc, size_snoc, size_nil]; omega)
/-- the law's table over two stretches -/
def tab (p : Pr W) (H G : Fo W) (x y : Nat) : Int := dist p (tk H x) (tk G y)
theorem tab_row (p : Pr W) (H G : Fo W) {y : Nat} (hy : y ≤ G.size) : tab p H G 0 y = p.more * y := by
  unfold tab
  rw [tk_zero, dist_nil_left, tk_size G y hy]
theorem tab_col {ws : List W} {ls : List Int} {o : Nat} (p : Pr W) (H G : Fo W) (h : Seg ws ls o H) {x : Nat} (hx : x < H.size) : tab p H G (x + 1) 0 = tab p H G x 0 + p.drop := by
  obtain ⟨r, w, c, e1, e2, _⟩ := tk_next h hx
  unfold tab
  rw [tk_zero, e1, e2, dist_sn]
theorem tab_cell {ws ws' : List W} {ls ls' : List Int} {o o' : Nat} (p : Pr W) {F F' H G : Fo W} (hF : Seg ws ls 0 F) (hF' : Seg ws' ls' 0 F') (hz : ws.length = F.size) (hz' : ws'.length = F'.size) (h : Seg ws ls o H) (h' : Seg ws' ls' o' G) {x y : Nat} (hx : x < H.size) (hy : y < G.size) :
    ∃ w v a b, ws[o + x]? = some w ∧ ws'[o' + y]? = some v ∧ ls[o + x]? = some ((o + a : Nat) : Int) ∧ ls'[o' + y]? = some ((o' + b : Nat) : Int) ∧ a ≤ x ∧ b ≤ y ∧
      (a = 0 → b = 0 → tab p H G (x + 1) (y + 1) = min (min (tab p H G x (y + 1) + p.drop) (tab p H G (x + 1) y + p.more)) (tab p H G x y + p.ch w v) ∧ TD p F F' (o + x) (o' + y) = tab p H G (x + 1) (y + 1)) ∧
      tab p H G (x + 1) (y + 1) = min (min (tab p H G x (y + 1) + p.drop) (tab p H G (x + 1) y + p.more)) (tab p H G a b + TD p F F' (o + x) (o' + y)) := by
  obtain ⟨r, w, c, e1, e2, e3, e4, e5, e6, _⟩ := tk_next h hx
  obtain ⟨s, v, d, f1, f2, f3, f4, f5, f6, _⟩ := tk_next h' hy
  have t : TD p F F' (o + x) (o' + y) = dist p (snoc nil w c) (snoc nil v d) := by
    unfold TD
    rw [lastTree_sub hF h hx hz, lastTree_sub hF' h' hy hz', e1, f1]
    rfl
  refine ⟨w, v, r.size, s.size, e5, f5, e6, f6, by omega, by omega, fun ha hb => ?_, ?_⟩
  · have er := eq_nil_of_size ha
    have es := eq_nil_of_size hb
    subst er
    subst es
    rw [t]
    unfold tab
    rw [e1, e2, f1, f2, nil_app, nil_app, dist_ss, dist_nn]
    refine ⟨?_, rfl⟩
    rw [nil_app, nil_app]
    omega
  · rw [t]
    unfold tab
    rw [e4, f4, e1, e2, f1, f2]
    exact dist_trees p r c s d w v
/-! ### the stretches that the law takes -/
def strL (ls : List Int) : List (Int × Int) := ((List.range ls.length).filter fun k => decide (0 < gI ls k) && !decide (gI ls k ∈ ls.drop (k + 1))).map (fun k => (gI ls k, (k : Int))) ++ [((0 : Int), (ls.length : Int) - 1)]
theorem last_of (ls : List Int) : ∀ (n i : Nat), ls.length = i + n → ∀ z, 1 ≤ n → gI ls i = z → ∃ k, i ≤ k ∧ k < ls.length ∧ gI ls k = z ∧ z ∉ ls.drop (k + 1)
  | 0, i, h, z, hn, _ => by omega
  | n + 1, i, h, z, hn, e => by
    by_cases q : z ∈ ls.drop (i + 1)
    · obtain ⟨j, hj⟩ := List.getElem?_of_mem q
      rw [List.getElem?_drop] at hj
      obtain ⟨hl, hv⟩ := List.getElem?_eq_some_iff.mp hj
      have g : gI ls (i + 1 + j) = z := by unfold gI; simp [hj]
      obtain ⟨k, k1, k2⟩ := last_of ls (n - j) (i + 1 + j) (by omega) z (by omega) g
      exact ⟨k, by omega, k2⟩
    · exact ⟨i, Nat.le_refl _, by omega, e, q⟩
termination_by n => n
decreasing_by omega
theorem gI_of {l : List Int} {i : Nat} {z : Int} (h : l[i]? = some z) : gI l i = z := by unfold gI; simp [h]
theorem gI_get {l : List Int} {i : Nat} (h : i < l.length) : l[i]? = some (gI l i) := by unfold gI; simp [h]
/-- leaves in a stretch -/
theorem seg_leaf {ws : List W} {ls : List Int} {o : Nat} {H : Fo W} (h : Seg ws ls o H) {i : Nat} (h1 : o ≤ i) (h2 : i < o + H.size) : (o : Int) ≤ gI ls i ∧ gI ls i ≤ i := by
  obtain ⟨r, w, c, _, _, e3, _, _, e6, _⟩ := tk_next h (x := i - o) (by omega)
  rw [show o + (i - o) = i by omega] at e6
  rw [gI_of e6]
  omega
theorem tree_at {ws : List W} {ls : List Int} {F : Fo W} (hF : Seg ws ls 0 F) {i : Nat} (h : i < F.size) : ∃ (l : Nat) (w : W) (c : Fo W), gI ls i = (l : Int) ∧ Seg ws ls l (snoc nil w c) ∧ l + c.size = i := by
  obtain ⟨r, w, c, _, _, e3, _, _, e6, e7⟩ := tk_next hF h
  rw [Nat.zero_add] at e6 e7
  exact ⟨r.size, w, c, gI_of (by rw [e6]; simp), e7, e3⟩
/-- what the law needs of a stretch: what stands at a in the list -/
structure StrOk (ws : List W) (ls : List Int) (a : Nat) (s t : Int) (s0 : Nat) (H : Fo W) : Prop where
  s : s = s0
  t : t = (s0 : Int) + H.size - 1
  seg : Seg ws ls s0 H
  before : ∀ i, s0 ≤ i → i < s0 + H.size → gI ls i ≠ s0 → ∃ b, b < a ∧ ∃ t', (strL ls)[b]? = some (gI ls i, t')
  all : ∀ i, i < ls.length → gI ls i = s0 → s0 ≤ i ∧ i < s0 + H.size
theorem strs_len (ls : List Int) : 1 ≤ (strL ls).length := by unfold strL; rw [List.length_append]; exact Nat.le_add_left _ _
theorem filt_at {n : Nat} {f : Nat → Bool} {k : Nat} (hk : k < n) (h : f k = true) : ((List.range n).filter f)[((List.range k).filter f).length]? = some k := by
  have e : List.range n = List.range k ++ k :: List.range' (k + 1) (n - k - 1) := by
    have q := range_split 0 k (n - k - 1)
    rw [show k + (n - k - 1) + 1 = n by omega, Nat.zero_add] at q
    rw [List.range_eq_range', List.range_eq_range', q]
  rw [e, List.filter_append, List.filter_cons, if_pos h]
  exact get_mid rfl
theorem filt_of {n : Nat} {f : Nat → Bool} {a k : Nat} (h : ((List.range n).filter f)[a]? = some k) : k < n ∧ f k = true ∧ a = ((List.range k).filter f).length := by
  have hm := List.mem_filter.mp (List.mem_of_getElem? h)
  have hk := List.mem_range.mp hm.1
  refine ⟨hk, hm.2, ?_⟩
  have g := filt_at (f := f) hk hm.2
  have hn : ((List.range n).filter f).Nodup := List.nodup_range.sublist List.filter_sublist
  obtain ⟨h1, e1⟩ := List.getElem?_eq_some_iff.mp h
  obtain ⟨h2, e2⟩ := List.getElem?_eq_some_iff.mp g
  exact (List.getElem_inj hn).mp (e1.trans e2.symm)
theorem filt_lt {f : Nat → Bool} {k n : Nat} (h : k < n) (hk : f k = true) : ((List.range k).filter f).length < ((List.range n).filter f).length := (List.getElem?_eq_some_iff.mp (filt_at h hk)).1
section
variable {ws : List W} {ls : List Int} {F : Fo W}
def strF (ls : List Int) (k : Nat) : Bool := decide (0 < gI ls k) && !decide (gI ls k ∈ ls.drop (k + 1))
theorem strs_eq (ls : List Int) : strL ls = ((List.range ls.length).filter (strF ls)).map (fun k => (gI ls k, (k : Int))) ++ [((0 : Int), (ls.length : Int) - 1)] := rfl
theorem strF_of {k : Nat} : strF ls k = true ↔ 0 < gI ls k ∧ gI ls k ∉ ls.drop (k + 1) := by simp [strF]
/-- the stretch that begins with a leaf above 0 -/
theorem strs_at {k : Nat} (hk : k < ls.length) (h : strF ls k = true) : (strL ls)[((List.range k).filter (strF ls)).length]? = some (gI ls k, (k : Int)) := by
  rw [strs_eq, List.getElem?_append_left (by rw [List.length_map]; exact filt_lt hk h), List.getElem?_map, filt_at hk h]
  rfl
theorem strs_cover (hF : Seg ws ls 0 F) (hl : ls.length = F.size) {i : Nat} (hi : i < F.size) : ∃ b, b < (strL ls).length ∧ ∃ t, (strL ls)[b]? = some (gI ls i, t) := by
  have g := seg_leaf hF (Nat.zero_le i) (by omega)
  by_cases h0 : gI ls i = 0
  · rw [h0]
    refine ⟨(strL ls).length - 1, by have := strs_len ls; omega, (ls.length : Int) - 1, ?_⟩
    rw [strs_eq, List.length_append]
    exact get_mid rfl
  · obtain ⟨k, k1, k2, k3, k4⟩ := last_of ls (ls.length - i) i (by omega) (gI ls i) (by omega) rfl
    have q := strs_at k2 (strF_of.mpr ⟨by omega, by rw [k3]; exact k4⟩)
    rw [k3] at q
    exact ⟨_, (List.getElem?_eq_some_iff.mp q).1, _, q⟩
theorem strs_ok (hF : Seg ws ls 0 F) (hl : ls.length = F.size) {a : Nat} {s t : Int} (h : (strL ls)[a]? = some (s, t)) : ∃ s0 H, StrOk ws ls a s t s0 H ∧ (a = (strL ls).length - 1 → s0 = 0 ∧ H = F) := by
  have ha := (List.getElem?_eq_some_iff.mp h).1
  have hlen : (strL ls).length = ((List.range ls.length).filter (strF ls)).length + 1 := by rw [strs_eq, List.length_append, List.length_map]; rfl
  by_cases hlast : a = (strL ls).length - 1
  · have e : (s, t) = ((0 : Int), (ls.length : Int) - 1) := by
      have q : (strL ls)[a]? = some ((0 : Int), (ls.length : Int) - 1) := by
        rw [strs_eq]
        exact get_mid (by rw [List.length_map]; omega)
      exact Option.some.inj (h.symm.trans q)
    injection e with e1 e2
    refine ⟨0, F, ⟨e1, by rw [e2, hl]; omega, hF, fun i _ h2 h3 => ?_, fun i h1 _ => ⟨Nat.zero_le _, by omega⟩⟩, fun _ => ⟨rfl, rfl⟩⟩
    have g := seg_leaf hF (Nat.zero_le i) (by omega)
    obtain ⟨k, k1, k2, k3, k4⟩ := last_of ls (ls.length - i) i (by omega) (gI ls i) (by omega) rfl
    have hk : strF ls k = true := strF_of.mpr ⟨by omega, by rw [k3]; exact k4⟩
    have q := strs_at k2 hk
    rw [k3] at q
    have := filt_lt k2 hk
    exact ⟨_, by omega, _, q⟩
  · have ha' : a < ((List.range ls.length).filter (strF ls)).length := by omega
    rw [strs_eq, List.getElem?_append_left (by rw [List.length_map]; exact ha'), List.getElem?_map] at h
    cases hk : ((List.range ls.length).filter (strF ls))[a]? with
    | none => rw [hk] at h; cases h
    | some k =>
      rw [hk] at h
      have e := Option.some.inj h
      injection e with e1 e2
      obtain ⟨k1, k2, k3⟩ := filt_of hk
      obtain ⟨m1, m2⟩ := strF_of.mp k2
      obtain ⟨l, w, c, g1, g2, g3⟩ := tree_at hF (i := k) (by omega)
      have hsz : (snoc nil w c).size = c.size + 1 := by rw [size_snoc, size_nil]; omega
      refine ⟨l, snoc nil w c, ⟨by rw [← e1]; exact g1, by rw [← e2, hsz]; omega, g2, fun i h1 h2 h3 => ?_, fun i h1 h2 => ?_⟩, fun z => absurd z hlast⟩
      · rw [hsz] at h2
        have gi := seg_leaf g2 h1 (by rw [hsz]; omega)
        have hik : i < k := by
          have : i ≠ k := fun z => h3 (by rw [z]; exact g1)
          omega
        obtain ⟨k', p1, p2, p3, p4⟩ := last_of ls (ls.length - i) i (by omega) (gI ls i) (by omega) rfl
        have hk' : strF ls k' = true := strF_of.mpr ⟨by omega, by rw [p3]; exact p4⟩
        have q := strs_at p2 hk'
        rw [p3] at q
        have hlt : k' < k := by
          refine Classical.byContradiction fun z => ?_
          have hne : k' ≠ k := fun y => by rw [y, g1] at p3; exact h3 p3.symm
          obtain ⟨l', w', c', f1, f2, f3⟩ := tree_at hF (i := k') (by omega)
          have hs' : (snoc nil w' c').size = c'.size + 1 := by rw [size_snoc, size_nil]; omega
          have gk := seg_leaf f2 (i := k) (by omega) (by rw [hs']; omega)
          omega
        refine ⟨_, ?_, _, q⟩
        rw [k3]
        exact filt_lt hlt hk'
      · have gi := seg_leaf hF (Nat.zero_le i) (by omega)
        rw [hsz]
        refine ⟨by omega, ?_⟩
        refine Classical.byContradiction fun z => m2 ?_
        have hd : (ls.drop (k + 1))[i - (k + 1)]? = some (gI ls k) := by
          rw [List.getElem?_drop, show k + 1 + (i - (k + 1)) = i by omega, g1, ← h2]
          exact gI_get h1
        exact List.mem_of_getElem? hd
end
/-! ### rows of words -/
def rowTab (p : Pr W) (a b : List W) (i j : Nat) : Int := dist p (flat (a.take i)) (flat (b.take j))
theorem flat_size : ∀ l : List W, (flat l).size = l.length := fun l => by
  induction h : l.length generalizing l with
  | zero => rw [List.eq_nil_of_length_eq_zero h]; rfl
  | succ n ih =>
    have hne : l ≠ [] := fun z => by rw [z] at h; simp at h
    have e := (List.dropLast_concat_getLast hne).symm
    rw [e, flat_concat, size_snoc, size_nil, ih _ (by rw [List.length_dropLast]; omega)]
theorem take_next {X : Type} {l : List X} {i : Nat} {x : X} (h : l[i]? = some x) : l.take (i + 1) = l.take i ++ [x] := by rw [List.take_add_one, h]; rfl
theorem rowTab_00 (p : Pr W) (a b : List W) : rowTab p a b 0 0 = 0 := dist_nn p
theorem rowTab_n0 (p : Pr W) {a b : List W} {i : Nat} {x : W} (h : a[i]? = some x) : rowTab p a b (i + 1) 0 = rowTab p a b i 0 + p.drop := by
  unfold rowTab
  rw [take_next h, flat_concat, List.take_zero]
  exact dist_sn p _ _ _
theorem rowTab_0n (p : Pr W) {a b : List W} {j : Nat} {y : W} (h : b[j]? = some y) : rowTab p a b 0 (j + 1) = rowTab p a b 0 j + p.more := by
  unfold rowTab
  rw [take_next h, flat_concat, List.take_zero]
  exact dist_ns p _ _ _
theorem rowTab_nn (p : Pr W) {a b : List W} {i j : Nat} {x y : W} (h : a[i]? = some x) (h' : b[j]? = some y) :
    rowTab p a b (i + 1) (j + 1) = min (min (rowTab p a b i (j + 1) + p.drop) (rowTab p a b (i + 1) j + p.more)) (rowTab p a b i j + p.ch x y) := by
  unfold rowTab
  rw [take_next h, take_next h', flat_concat, flat_concat, dist_ss, dist_nn, app_nil, app_nil]
  omega
theorem rowTab_all (p : Pr W) (a b : List W) : rowTab p a b a.length b.length = dist p (flat a) (flat b) := by
  unfold rowTab
  rw [List.take_length, List.take_length]
/-! ### prices -/
def chOf [DecidableEq W] (c : Int) : List (W × W × Int) → W → W → Int
  | [], w, v => if w = v then 0 else c
  | t :: r, w, v => if w = v then 0 else if t.1 = w ∧ t.2.1 = v then t.2.2 else chOf c r w v
def prOf [DecidableEq W] (d m c : Int) (T : List (W × W × Int)) : Pr W := ⟨d, m, chOf c T⟩
theorem chOf_self [DecidableEq W] (c : Int) : ∀ (T : List (W × W × Int)) (w : W), chOf c T w w = 0
  | [], w => if_pos rfl
  | _ :: _, w => if_pos rfl
theorem chOf_swap [DecidableEq W] (c : Int) : ∀ (T : List (W × W × Int)) (w v : W), chOf c (T.map fun t => (t.2.1, t.1, t.2.2)) v w = chOf c T w v
  | [], w, v => by
    show (if v = w then 0 else c) = if w = v then 0 else c
    by_cases h : w = v
    · rw [if_pos h, if_pos h.symm]
    · rw [if_neg h, if_neg (fun z => h z.symm)]
  | t :: r, w, v => by
    show (if v = w then 0 else if t.2.1 = v ∧ t.1 = w then t.2.2 else chOf c (r.map _) v w) = if w = v then 0 else if t.1 = w ∧ t.2.1 = v then t.2.2 else chOf c r w v
    rw [chOf_swap c r w v]
    by_cases h : w = v
    · rw [if_pos h, if_pos h.symm]
    · rw [if_neg h, if_neg (fun z => h z.symm)]
      by_cases h2 : t.1 = w ∧ t.2.1 = v
      · rw [if_pos h2, if_pos ⟨h2.2, h2.1⟩]
      · rw [if_neg h2, if_neg fun z => h2 ⟨z.2, z.1⟩]
theorem chOf_ge [DecidableEq W] {c z : Int} (hc : z ≤ c) : ∀ (T : List (W × W × Int)), (∀ t ∈ T, z ≤ t.2.2) → ∀ w v : W, w ≠ v → z ≤ chOf c T w v
  | [], _, w, v, h => by
    show z ≤ if w = v then 0 else c
    rw [if_neg h]
    exact hc
  | t :: r, hT, w, v, h => by
    show z ≤ if w = v then 0 else if t.1 = w ∧ t.2.1 = v then t.2.2 else chOf c r w v
    rw [if_neg h]
    by_cases h2 : t.1 = w ∧ t.2.1 = v
    · rw [if_pos h2]
      exact hT t List.mem_cons_self
    · rw [if_neg h2]
      exact chOf_ge hc r (fun u hu => hT u (List.mem_cons_of_mem _ hu)) w v h
theorem prOf_nn [DecidableEq W] {d m c : Int} {T : List (W × W × Int)} (hd : 0 ≤ d) (hm : 0 ≤ m) (hc : 0 ≤ c) (hT : ∀ t ∈ T, 0 ≤ t.2.2) : (prOf d m c T).Nn :=
  ⟨hd, hm, fun a b => by
    by_cases h : a = b
    · subst h
      show 0 ≤ chOf c T a a
      rw [chOf_self]
      exact Int.le_refl _
    · exact chOf_ge hc T hT a b h, chOf_self c T⟩
theorem prOf_turn [DecidableEq W] (d m c : Int) (T : List (W × W × Int)) : prOf m d c (T.map fun t => (t.2.1, t.1, t.2.2)) = (prOf d m c T).turn := by
  unfold prOf Pr.turn
  congr 1
  funext a b
  exact chOf_swap c T b a
end K14
set_option maxRecDepth 100000
set_option maxHeartbeats 4000000
namespace K14
open PySem PySem.Spec PyProof.Rows L2
/-! ### the text by places -/
def topS (i : Nat) : Stmt := PySem.Challenge.pw_graftbook_k14_whole_distances.main.body.getD i (.Pass ⟨0, 0, 0, 0⟩)
/-- a def of the top: where it stands, how it is called -/
structure Df (K : PySem.W.Frag) (mg : Str → Option Value) (x : Str) (st : Stmt) (ps : List Str) where
  f : Addr
  fd : FuncData
  F : Fun K x x st f fd
  g : mg x = some (.ref f)
  b : Binds K fd ps []
/-- a method of the class at C -/
structure Mf (K : PySem.W.Frag) (C : Addr) (x q : Str) (st : Stmt) (ps : List Str) where
  f : Addr
  fd : FuncData
  F : Fun K x q st f fd
  m : Meth K C x f
  b : Binds K fd ps []
theorem hu65 {A : Around} {k : Nat} (hr : Room k A) : A.units + 65 < cLine := by
  have := hr.un
  omega
/-! ### heaps -/
theorem same_new {H : Hp} {p : Addr} {o : HO} (h : H p = none) : Same H (upd H p o) := fun b x e => by
  rw [upd_ne (ne_of_none e h)]
  exact e
theorem same_t {K : PySem.W.Frag} {H H' : Hp} {a : Addr} {xs : List V} (e : Same H H') (h : SqT K H a xs) : SqT K H' a xs := by
  rcases h with (h | ⟨o, h⟩) | h
  · exact .inl (.inl (e _ _ h))
  · exact .inl (.inr ⟨o, e _ _ h⟩)
  · exact .inr h
/-- all but a stays -/
theorem same_set {H H' : Hp} {a : Addr} {o : HO} (e : Same H H') (h : H a = none) : Same H (upd H' a o) := fun b x q => by
  rw [upd_ne (ne_of_none q h)]
  exact e b x q
mutual
theorem dp_same {K : PySem.W.Frag} {H H' : Hp} (e : Same H H') : ∀ {v : V} {d : PyData}, Dp K H v d → Dp K H' v d
  | _, _, .non => .non
  | _, _, .bl b => .bl b
  | _, _, .int i => .int i
  | _, _, .str x => .str x
  | _, _, .lst h a => .lst (e.seq h) (dps_same e a)
  | _, _, .tup h a => .tup (same_t e h) (dps_same e a)
theorem dps_same {K : PySem.W.Frag} {H H' : Hp} (e : Same H H') : ∀ {vs : List V} {ds : List PyData}, DpAll K H vs ds → DpAll K H' vs ds
  | _, _, .nil => .nil
  | _, _, .cons h t => .cons (dp_same e h) (dps_same e t)
end
theorem dpAll_len {K : PySem.W.Frag} {H : Hp} : ∀ {vs : List V} {ds : List PyData}, DpAll K H vs ds → vs.length = ds.length
  | _, _, .nil => rfl
  | _, _, .cons _ t => congrArg Nat.succ (dpAll_len t)
theorem dpAll_get {K : PySem.W.Frag} {H : Hp} : ∀ {vs : List V} {ds : List PyData} {i : Nat} {v : V}, DpAll K H vs ds → vs[i]? = some v → ∃ d, ds[i]? = some d ∧ Dp K H v d
  | _, _, _, _, .nil, e => by simp at e
  | _, _, 0, _, .cons h _, e => by
    simp at e
    subst e
    exact ⟨_, rfl, h⟩
  | _, _, i + 1, _, .cons _ t, e => dpAll_get (i := i) t (by simpa using e)
theorem dpAll_app {K : PySem.W.Frag} {H : Hp} : ∀ {vs us : List V} {ds es : List PyData}, DpAll K H vs ds → DpAll K H us es → DpAll K H (vs ++ us) (ds ++ es)
  | _, _, _, _, .nil, h => h
  | _, _, _, _, .cons h t, h' => .cons h (dpAll_app t h')
theorem sz_of {n : Nat} (h : n ≤ 100000) : n ≤ sizeLine := Nat.le_trans h (by decide)
theorem sz_lt {n : Nat} (h : n < 100000) : n < sizeLine := Nat.lt_of_lt_of_le h (by decide)
/-! ### the type of data -/
def dTy : PyData → String
  | .none => "NoneType"
  | .bool _ => "bool"
  | .int _ => "int"
  | .str _ => "str"
  | .list _ => "list"
  | .tuple _ => "tuple"
  | .dict _ => "dict"
theorem ty_lst {K : PySem.W.Frag} {H : Hp} {a : Addr} {xs : List V} (h : SqL K H a xs) : TyX K H (.ref a) (.type "list") := by
  rcases h with (h | ⟨o, h⟩) | ⟨o, its, n, h, c, _⟩
  · exact .base (.lst h)
  · exact .base (.frz h)
  · exact .kList h c
theorem ty_tup {K : PySem.W.Frag} {H : Hp} {a : Addr} {xs : List V} (h : SqT K H a xs) : TyX K H (.ref a) (.type "tuple") := by
  rcases h with (h | ⟨o, h⟩) | ⟨o, its, n, h, c, _⟩
  · exact .base (.tup h)
  · exact .fTuple h
  · exact .kTuple h c
theorem ty_dp {K : PySem.W.Frag} {H : Hp} {v : V} {d : PyData} (h : Dp K H v d) : TyX K H v (.type (dTy d)) := by
  cases h with
  | non => exact .base .non
  | bl b => exact .base (.bl b)
  | int i => exact .base (.int i)
  | str x => exact .base (.str x)
  | lst h _ => exact ty_lst h
  | tup h _ => exact ty_tup h
end K14
set_option maxRecDepth 100000
set_option maxHeartbeats 4000000
/-! The two own errors: InvalidForest(value), InvalidPrices(value): over GraftError over ValueError, with super().__init__(text). -/
namespace K14X
open PySem PySem.W PySem.Calls PyProof.Rows PySem.HandSPX
def iAr (p1 p2 : Pos) : Arguments := { posonlyargs := [], args := [{ arg := "self", annotation := none, pos := p1 }, { arg := "value", annotation := none, pos := p2 }], vararg := none, kwonlyargs := [], kw_defaults := [], kwarg := none, defaults := [] }
def iBo (msg : Str) (q1 q2 q3 q4 q5 q6 q7 q8 q9 q10 : Pos) : List Stmt :=
  [.Expr (.Call (.Attribute (.Call (.Name "super" q1) [] [] q2) "__init__" q3) [.Constant (.str msg) 0 q4] [] q5) q6, .Assign [.Attribute (.Name "self" q7) "value" q8] (.Name "value" q9) q10]
def iSc : Scope := { kind := .function, names := [(PySem.Str.ofString "self", .local), (PySem.Str.ofString "value", .local), (PySem.Str.ofString "__class__", .free), (PySem.Str.ofString "super", .globalImplicit)], isGenerator := false, isCoroutine := false, more := [] }
/-- what the written part says of the error class nm, at C, and of its __init__, at fI -/
structure InvC (P : Program) (K : Frag) (mg : Str → Option Value) (nm qual : Str) (C fI : Addr) : Prop where
  gC : mg nm = some (.ref C)
  cls : ∃ n q N bs bm sn sub ab col dd k0 k1 k2 k3 k5, K.lookup C = some (excClassObj n q C N bs bm true sn sub ab col dd k0 k1 k2 k3 k5 "ValueError.__new__") ∧ refsVE bm = true
  sa : findIn K (.ref C) "__setattr__" = some (some (.builtin "object.__setattr__"))
  ga : findIn K (.ref C) "__getattribute__" = some (some (.builtin "BaseException.__getattribute__"))
  gg : findIn K (.ref C) "__getattr__" = some none
  noN : findIn K (.ref C) "value" = some none
  iC : findIn K (.ref C) "__init__" = some (some (.ref fI))
  tC : typeIn K (.ref fI) = some (.type "function")
  kC : keepIn K (.ref C) = true
  exC : subIn K (.ref C) (.type "BaseException") = some true
  tyC : typeIn K (.ref C) = some (.type "type")
  hdC : hasDictIn K C = true
  te : exmOne K (.ref C) (.ref C) = some true
  ve : subIn K (.ref C) (.type "ValueError") = some true
  me : mroIn K C (.ref C) = some true
  sup : ks_superIn K C C "__init__" = some (some (.builtin "ValueError.__init__"))
  st : nsIn K cStatics "thirdparty.any" = some none
  zs : mg "super" = none
  fn : ∃ (oc : Value) (od : Option Addr) (doc pm : Value) (an : Option Addr) (cda cc : Addr) (ct : Value) (osl : Array (Option Value)) (msg : Str) (p1 p2 q1 q2 q3 q4 q5 q6 q7 q8 q9 q10 : Pos),
    K.lookup fI = some ⟨oc, od, .func (ksFn "__init__" qual (iAr p1 p2) (iBo msg q1 q2 q3 q4 q5 q6 q7 q8 q9 q10) iSc .none .none doc pm an (.ref cda) ct cc), osl⟩ ∧ codeIn K (.ref cda) qual = true ∧
    (∃ cl cld csl, K.lookup cc = some ⟨cl, cld, .cell (some (.ref C)), csl⟩) ∧ ∃ cl cld vs csl file tf, K.lookup cda = some ⟨cl, cld, .fields vs, csl⟩ ∧ vs[2]? = some (.str file tf) ∧ ((P.main.file : Str) == file) = true ∧ (q3.endLine == q5.line) = true
  top : (P.main.scope.names.lookup ("super" : Str)).isSome = false
theorem mcall (msg : Str) (q1 q2 q3 q4 q5 : Pos) (env : Env) (hq : (q3.endLine == q5.line) = true) : eval (.Call (.Attribute (.Call (.Name "super" q1) [] [] q2) "__init__" q3) [.Constant (.str msg) 0 q4] [] q5) env = (do
      let ov ← attributeBase (.Call (.Name "super" q1) [] [] q2) "__init__" env (eval (.Call (.Name "super" q1) [] [] q2) env)
      standAt q3.atName
      let (f, first) ← holding [ov] (getMethod ov "__init__" (do return (← importBound (.Call (.Name "super" q1) [] [] q2) env).getD true))
      callWith q5 f first (backTo q5 (starEach [.Constant (.str msg) 0 q4] env)) []) := by
  have e : methodCallPos (methodCallForm ([Expr.Constant (.str msg) 0 q4].length + ([] : List Keyword).length) (backTo q5 (starEach [.Constant (.str msg) 0 q4] env)) (backToKw q5 (keywordEach [] env))) (.Call (.Name "super" q1) [] [] q2) env q3 q5 = pure q5 := by
    unfold methodCallPos
    rw [hq]
    simp
  have e2 : ∀ ov, calleeOf (methodCallForm ([Expr.Constant (.str msg) 0 q4].length + ([] : List Keyword).length) (backTo q5 (starEach [.Constant (.str msg) 0 q4] env)) (backToKw q5 (keywordEach [] env))) (.Call (.Name "super" q1) [] [] q2) env ov "__init__" =
    getMethod ov "__init__" (do return (← importBound (.Call (.Name "super" q1) [] [] q2) env).getD true) := fun ov => by
    rfl
  show (do
    let ov ← attributeBase (.Call (.Name "super" q1) [] [] q2) "__init__" env (eval (.Call (.Name "super" q1) [] [] q2) env)
    standAt q3.atName
    methodCall (.Call (.Name "super" q1) [] [] q2) "__init__" q3 q5 env ov ([Expr.Constant (.str msg) 0 q4].length + ([] : List Keyword).length) (backTo q5 (starEach [.Constant (.str msg) 0 q4] env)) (backToKw q5 (keywordEach [] env))) = _
  unfold methodCall
  simp only [e, e2, pure_bind]
  rfl
theorem boot_super : bootBuiltins "super" = some (.type "super") := by decide +kernel
/-- what __init__ leaves of a fresh exception at x -/
structure InvEnd (h h' : Heap) (x C dx : Addr) (v : Value) : Prop where
  keep : ∀ b o, b ≠ x → h.get? b = some o → h'.get? b = some o
  obj : ∃ t1 : Addr, h'.get? x = some { cls := .ref C, dict := some dx, data := .fields #[.ref t1, .none, .none, .none, .bool false, .none] }
  dbig : h.objs.size ≤ dx
  dne : dx ≠ x
  ns : h'.Ns1 dx (fun y => if y = "value" then some v else none)
section
variable {prog : Program} {w : World} {A : Around} {E : Value → Shared → Prop} {R : Result → Shared → Prop}
/-- the bound ValueError.__init__ called -/
theorem call_mw {h : Heap} {g : Array GenState} {d : Drawn} {t : Nat} {os : OsState} {nm q : Str} {C N : Addr} {bs bm : List Value} {hdct : Bool} {sn : List Str} {sub : List Value} {ab : Bool} {col : Option Bool} {dd : Option Addr} {k0 k1 k2 k3 k5 : Option Value}
    {u e t0 : Addr} {rest : List Value} {Q : Value → Shared → Prop} (hC : h.get? C = some (excClassObj nm q C N bs bm hdct sn sub ab col dd k0 k1 k2 k3 k5 "ValueError.__new__")) (he : h.get? e = some (excO C t0)) (hu : h.get? u = some (kxs_mw "ValueError.__init__" e)) (hz : rest.length ≤ sizeLine)
    (hq : ∀ h' t1, (∀ b o, b ≠ e → h.get? b = some o → h'.get? b = some o) → h'.get? e = some (excO C t1) → Q .none ⟨h', g, d, t, os⟩) :
    wpAny (model prog w) A (call (.ref u) rest) Q E ⟨h, g, d, t, os⟩ := by
  have FB := F.excBase_ValueError
  refine wpAny_call (codeAny_of_tree ?_)
  show wpAny _ A.in1 (callAny (.ref u) ⟨rest, []⟩) _ _ _
  simp only [callAny]
  refine wpAny_bind (wpAny_load hu ?_)
  simp only [kxs_mw, show (Value.type "method-wrapper" == Value.type "method" || Value.type "method-wrapper" == Value.type "builtin_function_or_method" || Value.type "method-wrapper" == Value.type "method-wrapper") = true by decide, if_true]
  refine KFB.if_so (by decide) ?_
  refine wpAny_bind (check_bound_init FB.toExcCallFacts hC he rfl ?_)
  refine wpAny_bind (wpAny_pure (wpAny_pure ?_))
  refine ⟨plainId_quiet FB.init.plain _, codeAny_builtin FB.initEntry ?_⟩
  exact exc_init_tree (cls := .ref C) (t0 := t0) (dv := none) (c2 := .none) (c3 := .none) (b4 := .bool false) he hz fun h' k e' _ => hq h' _ k e'
theorem inv_init {s : Shared} {K : Frag} {mg mb : Str → Option Value} {C fI : Addr} {nm qual : Str} (T : InvC prog K mg nm qual C fI) {x t0 : Addr} {v : Value} (X : K.In s.heap) (hg : s.heap.Ns mainGlobals mg) (hb : s.heap.Ns builtinsNs mb) (hbb : mb "super" = some (.type "super"))
    (hlim : s.heap.NoLimit) (hx : s.heap.get? x = some (excO C t0)) (hnx : K.lookup x = none) (hroom : A.depth < recursionLimit) (hq : ∀ h' tk dx, InvEnd s.heap h' x C dx v → R (.ok (.ret .none)) { s with heap := h', toks := tk }) :
    codeAny (model prog w) A (.call (.ref fI) ⟨[.ref x, v], []⟩) R s := by
  obtain ⟨oc, od, doc, pm, an, cda, cc, ct, osl, msg, p1, p2, q1, q2, q3, q4, q5, q6, q7, q8, q9, q10, ho, hcd, ⟨ccl, ccd, ccs, hcc⟩, kcl, kcd, vs, kcs, file, tf, hk, hvs, hfile, hq35⟩ := T.fn
  obtain ⟨n, q, N, bs, bm, sn, sub, ab, col, dd, k0, k1, k2, k3, k5, hC, hbm⟩ := T.cls
  have hcl : clsIn K C = some { name := n, bases := bs, mro := .ref C :: bm, ns := N, qualname := q, hasDict := true, slotNames := sn, subclasses := sub, abstract := ab, collection := col, hasDel := false } := by unfold clsIn; rw [hC] <;> rfl
  refine ks_codeAny_call_defAt (fd := ksFn "__init__" qual (iAr p1 p2) (iBo msg q1 q2 q3 q4 q5 q6 q7 q8 q9 q10) iSc .none .none doc pm an (.ref cda) ct cc) (body := iBo msg q1 q2 q3 q4 q5 q6 q7 q8 q9 q10) (binds := [("self", .ref x), ("value", v)]) hroom (X _ _ ho) rfl hlim (codeRec_of X hcd) rfl (BindsTo.of_eq (by first | rfl | with_unfolding_all rfl)) (by show ∀ y ∈ iSc.names, y.2 ≠ NameKind.cell; decide) (fun y hy => by
      rcases List.mem_cons.mp hy with rfl | hy
      · rfl
      · rcases List.mem_cons.mp hy with rfl | hy
        · rfl
        · cases hy) (fun h1 hns k1 => ?_)
  have X1 : K.In h1 := X.keeps k1
  have hx1 := k1 _ _ hx
  have hxL : s.heap.objs.size ≠ x := Nat.ne_of_gt (Heap.lt_size hx)
  obtain ⟨hp, g, d, tk, os⟩ := s
  have hg1 := hg.keeps k1
  have hb1 := hb.keeps k1
  show _root_.PySem.wpAt _ _ _ (execs (iBo msg q1 q2 q3 q4 q5 q6 q7 q8 q9 q10) _) _ _ _
  refine ks_wpAt_execs_cons (ks_wpAt_Expr_any (ks_wpAt_MethodCall ?_ (mcall msg q1 q2 q3 q4 q5 _ hq35)))
  refine ks_wpAt_super_base (by rfl) (by rfl) (by rfl) rfl (X1 _ _ ho) rfl (by rfl) rfl (X1 _ _ hk) rfl hvs hfile T.top ?_
  refine ks_loadName_global (by rfl) (by rfl) (loadGlobal_builtin hg1 T.zs hb1 hbb ⟨rfl, ?_⟩)
  refine wpAny_loadName_free (by rfl) (by rfl) (by rfl) ⟨_, X1 _ _ hcc, rfl⟩ ?_
  refine wpAny_loadName_local (by rfl) (by rfl) hns (v := .ref x) (by first | rfl | with_unfolding_all rfl | kernel_rfl) ?_
  refine ks_wpAny_isType_cls (X1 _ _ hC) rfl ⟨rfl, ?_⟩
  refine ks_wpAny_call_super (X1 _ _ hC) rfl hx1 rfl (fun c e => by cases e) (looks_mroIn X1 T.me) (fun h2 e2 k2 => ?_)
  have X2 : K.In h2 := X1.keeps k2
  have hx2 := k2 _ _ hx1
  have I2 : InstAt h2 x (excO C t0) C none := ⟨hx2, rfl, rfl, trivial⟩
  have hI : Looks (model prog w) h2 (isInstance (.ref x) (.type "ValueError")) true := I2.type.andThen (looks_subIn X2 T.ve)
  have hsup := T.sup
  unfold ks_superIn at hsup
  rw [hcl] at hsup
  have hmro : Looks (model prog w) h2 (mroOf (.ref C)) (.ref C :: bm) := fun A Q E s k q => wpAny_bind ((looks_clsIn X2 hcl) A _ E s k (wpAny_pure q))
  refine kxs_getMethod kxs_ValueError e2 (looks_opaque X2 T.st) hmro rfl X2 hsup hI (ks_ne X2 I2 hcl) (by decide) ?_
  have k3 : ∀ b o, h2.get? b = some o → (h2.push (kxs_mw "ValueError.__init__" x)).get? b = some o := fun b o e => Heap.get?_push_of_some _ e
  have e3 : (h2.push (kxs_mw "ValueError.__init__" x)).get? h2.objs.size = some (kxs_mw "ValueError.__init__" x) := Heap.get?_push_at rfl rfl
  generalize h2.push (kxs_mw "ValueError.__init__" x) = h3 at k3 e3
  have X3 : K.In h3 := X2.keeps k3
  refine kxs_callWith (i := "ValueError.__init__") (x := x) (by rfl) (evalArgs_plain ?_)
  refine Calls.spliced_cons ?_
  show wpAny _ _ (eval (.Constant (.str msg) 0 q4) _) _ _ _
  refine Calls.Constant_str ?_
  refine Calls.spliced_nil ⟨e3, ?_⟩
  refine call_mw (X3 _ _ hC) (k3 _ _ hx2) e3 (by rw [sizeLine_eq]; exact (by decide : 1 ≤ 16777216)) (fun h4 t1 k4 hx4 => ?_)
  have keep4 : ∀ b o, b ≠ x → hp.get? b = some o → h4.get? b = some o := fun b o hb e => k4 b o hb (k3 b o (k2 b o (k1 b o e)))
  have X4 : K.In h4 := fun a o e => k4 a o (fun z => by rw [z, hnx] at e; cases e) (X3 a o e)
  have hLx : hp.objs.size ≠ x := hxL
  have hn4 : h4.Ns hp.objs.size (fun x_1 => List.lookup x_1 [(PySem.Str.ofString "self", Value.ref x), (PySem.Str.ofString "value", v)].reverse) := by
    obtain ⟨oL, es, ep, hL, r⟩ := hns
    exact ⟨oL, es, ep, k4 _ _ hLx (k3 _ _ (k2 _ _ hL)), r⟩
  refine wpAt_of_wpAny ?_
  refine wpAny_execs_cons (plainObj_wpAny_Assign_Attribute ?_)
  refine wpAny_Name (wpAny_loadName_local (by rfl) (by rfl) hn4 (v := v) (by first | rfl | with_unfolding_all rfl | kernel_rfl) ?_) (by decide)
  refine wpAny_Name (wpAny_loadName_local (by rfl) (by rfl) hn4 (v := .ref x) (by first | rfl | with_unfolding_all rfl | kernel_rfl) ?_) (by decide)
  refine set_plain X4 (ox := excO C t1) (od := none) ⟨hx4, rfl, rfl, trivial⟩ T.sa ?_
  refine HandSPX.exc_osa X4 hx4 hcl (show refsVE (.ref C :: bm) = true from hbm) rfl T.noN (fun h5 tk5 dx k5 dn dne hx5 hn5 => ?_)
  have z4 : hp.objs.size < h4.objs.size := by
    obtain ⟨oL, es, ep, hL, r⟩ := hn4
    exact Heap.lt_size hL
  exact wpAny_execs_nil (hq h5 _ dx ⟨fun b o hb e => k5 b o hb (keep4 b o hb e), ⟨t1, hx5⟩, Nat.le_of_lt (Nat.lt_of_lt_of_le z4 dn), dne, hn5⟩)
/-- a made error -/
structure InvMade (h h' : Heap) (e C d : Addr) (v : Value) : Prop where
  keep : ∀ b o, h.get? b = some o → h'.get? b = some o
  new : h.objs.size ≤ e
  obj : ∃ oe vs, h'.get? e = some oe ∧ oe.cls = .ref C ∧ oe.dict = some d ∧ oe.data = .fields vs ∧ vs[1]? = some .none
  dbig : h.objs.size ≤ d
  dne : d ≠ e
  ns : h'.Ns1 d (fun y => if y = "value" then some v else none)
theorem inv_made {s : Shared} {K : Frag} {mg mb : Str → Option Value} {C fI : Addr} {nm qual : Str} (T : InvC prog K mg nm qual C fI) {v : Value} (X : K.In s.heap) (hg : s.heap.Ns mainGlobals mg) (hb : s.heap.Ns builtinsNs mb) (hbb : mb "super" = some (.type "super"))
    (hlim : s.heap.NoLimit) (hroom : A.depth + 1 < recursionLimit) (hq : ∀ h' tk e d, InvMade s.heap h' e C d v → R (.ok (.ret (.ref e))) { s with heap := h', toks := tk }) :
    codeAny (model prog w) A (.call (.ref C) ⟨[v], []⟩) R s := by
  obtain ⟨n, q, N, bs, bm, sn, sub, ab, col, dd, k0, k1, k2, k3, k5, hC, hbm⟩ := T.cls
  obtain ⟨hp, g, dr, tk, os⟩ := s
  have k : ∀ b o, hp.get? b = some o → ((hp.push (kdv_tup [v])).push (excO C hp.objs.size)).get? b = some o := fun b o e => Heap.get?_push_of_some _ (Heap.get?_push_of_some _ e)
  have hget : ((hp.push (kdv_tup [v])).push (excO C hp.objs.size)).get? (hp.objs.size + 1) = some (excO C hp.objs.size) := by heap_get
  have hnx : K.lookup (hp.objs.size + 1) = none := by
    cases e : K.lookup (hp.objs.size + 1) with
    | none => rfl
    | some o =>
      have z : hp.get? (hp.objs.size + 1) = some o := X _ _ e
      exact absurd (Nat.lt_of_succ_lt (Heap.lt_size z)) (Nat.lt_irrefl _)
  have one : [v].length ≤ sizeLine := by rw [sizeLine_eq]; exact (by decide : 1 ≤ 16777216)
  refine call_own F.excBase_ValueError (fun X => refsVE_contains X bm hbm) (X _ _ hC) (looks_findIn X T.iC) (fun self => bind_fn X self T.tC) one ?_
  refine inv_init (s := ⟨(hp.push (kdv_tup [v])).push (excO C hp.objs.size), g, dr, tk, os⟩) T (X.keeps k) (hg.keeps k) (hb.keeps k) hbb (hlim.keeps k) hget hnx ?_ fun h' tk' dx M => ?_
  · show A.depth + 1 < recursionLimit
    exact hroom
  · obtain ⟨t1, hx⟩ := M.obj
    have old : ∀ b o, hp.get? b = some o → h'.get? b = some o := fun b o e => M.keep b o (Nat.ne_of_lt (Nat.lt_succ_of_lt (Heap.lt_size e))) (k b o e)
    have z : hp.objs.size + 1 + 1 ≤ dx := by
      have dn := M.dbig
      first
        | (simpa only [Heap.size_push] using dn)
        | exact dn
    exact ⟨rfl, hq h' tk' (hp.objs.size + 1) dx ⟨old, Nat.le_succ _, ⟨_, _, hx, rfl, rfl, rfl, rfl⟩, Nat.le_trans (Nat.le_trans (Nat.le_succ _) (Nat.le_succ _)) z, M.dne, M.ns⟩⟩
end
end K14X
namespace K14
open PySem PySem.Spec PyProof.Rows L2
theorem relO_val {v : V} {v' : Value} (r : RelV v v') (f : Str) : RelO (List.lookup f [(("value" : Str), v)]) (if f = "value" then some v' else none) := by
  by_cases hw : f = "value"
  · subst hw
    rw [if_pos rfl]
    have q : List.lookup ("value" : Str) [(("value" : Str), v)] = some v := by simp [List.lookup]
    rw [q]
    exact r
  · rw [if_neg hw]
    have qw : (f == ("value" : Str)) = false := by simpa using hw
    have q2 : List.lookup f [(("value" : Str), v)] = none := by simp [List.lookup, qw]
    rw [q2]
    trivial
/-- nm(e) -/
def tMkI (C : Addr) (ta : TA) : L2.St → Hp → XK → Prop := fun σ H Q => ta σ H fun vs H1 => ∃ v, vs = [v] ∧ ∀ d, H1 d = none → Q (.ref C) (some d) (upd H1 d (.xd [(("value" : Str), v)]))
theorem pmk_inv {X : Cx} {nm qual : Str} {C fI : Addr} {a : Expr} {ta : TA} {p pos : Pos} {k : Nat} (T : K14X.InvC X.prog X.K X.mg nm qual C fI) (hr : Room k X.A) (ha : PA X [a] ta) (hg : Gl X nm) (hdb : (nm == ("__debug__" : Str)) = false := by decide)
    (he : starEach (a :: []) X.env = (false, eval a X.env) :: starEach [] X.env := by rfl) (hpl : (backTo pos (starEach [] X.env)).any (·.1) = false := by rfl) :
    PMk X (.Call (.Name nm p) [a] [] pos) (tMkI C ta) := by
  intro pins s σ H Q I h
  refine wpAny_Call_Name_kw (ld_glob I hg T.gC ?_ hdb)
  refine PySem.W.callWith_K (h₀ := X.base) I.ok.mod.kin T.kC (thn (ha.run pos pins s σ H _ I h) fun us s1 hh => ?_) he hpl
  obtain ⟨vs, H1, I1, r1, v, ev, q1⟩ := hh
  subst ev
  refine ⟨I1.kIn, ?_⟩
  cases r1 with
  | cons rv rn =>
    rename_i v' us'
    cases rn
    show wpAny _ _ (call (.ref C) [v']) _ _ _
    have hlim := I1.nolimit
    obtain ⟨mb, hb1, hb2⟩ := I1.mod.blt
    have hglob := I1.mod.glob.keeps I1.bk
    have hb := hb1.keeps I1.bk
    obtain ⟨hp, g, dr, tk, os⟩ := s1
    refine wpAny_call (K14X.inv_made T I1.kIn hglob hb ((hb2 _ (by decide +kernel)).trans K14X.boot_super) hlim (by have := hr.dp; omega) fun h' tk' e d M => ?_)
    show MkP X pins σ Q (.ref e) ⟨h', g, dr, tk', os⟩
    obtain ⟨oe, fv, hoe, hc, hd, hdat, h1⟩ := M.obj
    have hns := M.ns
    obtain ⟨G', g1, g2⟩ := restrict h' fun b => decide (b ≠ e)
    have gk : ∀ b, b ≠ e → G'.get? b = h'.get? b := fun b hb => g1 b (decide_eq_true hb)
    have ge : G'.get? e = none := g2 e (by simp)
    have old : ∀ b o, hp.get? b = some o → G'.get? b = some o := fun b o q => (gk b (Nat.ne_of_lt (Nat.lt_of_lt_of_le (Heap.lt_size q) M.new))).trans (M.keep b o q)
    have ob : ObjOk X.prog X.w (upd H1 d (.xd [(("value" : Str), v)])) G' d (.xd [(("value" : Str), v)]) :=
      ⟨_, hns.at (fun o q => (gk d M.dne).trans q), fun f => relO_val rv f⟩
    have J : Inv X pins σ (upd H1 d (.xd [(("value" : Str), v)])) ⟨G', g, dr, tk', os⟩ := I1.laid (t' := tk') old M.dbig ob
    refine ⟨e, oe, fv, ⟨G', g, dr, tk', os⟩, _, .ref C, some d, rfl, J, fun b o q => ?_, ge, hoe, ⟨hc, hd⟩, hdat, h1, ?_, rfl, I1.bare, raises_own T.exC T.tyC, q1 d (I1.hok.fresh M.dbig)⟩
    · by_cases hb : b = e
      · have q' : G'.get? b = some o := q
        rw [hb, ge] at q'
        cases q'
      · exact (gk b hb).symm.trans q
    · rw [upd_ne (Ne.symm M.dne)]
      exact I1.hok.fresh M.new
end K14
set_option maxRecDepth 100000
set_option maxHeartbeats 4000000
/-! A call by keywords alone; several except clauses, each with a name. -/
namespace K14
open PySem PySem.Spec PyProof.Rows L2
section
variable {X : Cx} {CX : CXT} {k : Nat} {f : Addr} {fd : FuncData} {ps ks : List Str} {sp : Sp} {E : XK} {x : Str} {p pos : Pos} {kws : List Keyword} {tk : TA} {g : List Value → List Value → List Value} {gV : List V → List V → List V}
theorem pe_callK0 (F : FnOk X.prog X.w X.K X.mg X.base CX k f fd ps sp) (hr : Room k X.A) (hg : Gl X x) (hm : X.mg x = some (.ref f)) (hk : PySem.W.keepIn X.K (.ref f) = true) (hb : KBinds X.K fd ps ks g gV) (hx : Passes CX X E) (hkw : PK X kws tk)
    (hall : (backToKw pos (keywordEach kws X.env)).all (·.1.isSome) = true := by rfl) (hks : (backToKw pos (keywordEach kws X.env)).filterMap (·.1) = ks := by rfl) (hdb : (x == ("__debug__" : Str)) = false := by decide)
    (hpl : ((backTo pos (starEach [] X.env)).any (·.1) || (backToKw pos (keywordEach kws X.env)).any (·.1.isNone)) = false := by rfl) :
    PE X (.Call (.Name x p) [] kws pos) (tCallK sp gV E tNil tk) := by
  refine ⟨fun pins s σ H Q I h => ?_⟩
  refine wpAny_Call_Name_kw (ld_glob I hg hm ?_ hdb)
  refine PySem.W.callWith_KW0 (h₀ := X.base) I.ok.mod.kin hk hall ?_ hpl
  refine thn (hkw.run pos pins s σ H _ I h) fun ws s2 ⟨zs, H2, I2, rz, q2⟩ => ⟨I2.kIn, ?_⟩
  rw [hks]
  exact run_fnk (us := []) (vs := []) F hr hb hx I2 .nil rz q2
end
/-- what the named clauses wish of an exception of the body, one after the other: its class, its name's slot, its suite -/
def wNamed (K : PySem.W.Frag) (Wout : WX) (D : Ends) : List (Value × Nat × (Addr → Value → Option Addr → TS)) → WX
  | [] => Wout
  | (c, i, ts) :: r => fun cls d σ H => ∃ b, PySem.W.exmOne K cls c = some b ∧
      (b = true → ∀ a, H a = none → ts a cls d { nx := fun σ' H' => D.nx (σ'.set i none) H', rt := D.rt, bk := fun σ' H' => D.bk (σ'.set i none) H', ct := fun σ' H' => D.ct (σ'.set i none) H' } (σ.set i (some (.ref a))) H) ∧
      (b = false → wNamed K Wout D r cls d σ H)
/-- the clauses' texts and their readings -/
inductive HdsNamed (X : Cx) : List ExceptHandler → List (Value × Nat × (Addr → Value → Option Addr → TS)) → Prop
  | nil : HdsNamed X [] []
  | cons {x n : Str} {c : Value} {i : Nat} {ts : Addr → Value → Option Addr → TS} {b0 : Stmt} {suite : List Stmt} {np pos' : Pos} {hds : List ExceptHandler} {l : List (Value × Nat × (Addr → Value → Option Addr → TS))} (hc : Names X x c)
      (hi : X.N[i]? = some n) (hln : X.env.kindOf n = some .local)
      (hsu : ∀ (a : Addr) (oe : Obj) (cls : Value) (d : Option Addr) (pn : List (Addr × Obj)), Zc cls d oe → (∃ vs, oe.data = .fields vs) → PSs (X.suite a ((a, oe) :: pn)) (b0 :: suite) (ts a cls d)) (r : HdsNamed X hds l) :
      HdsNamed X (.ExceptHandler (some (.Name x np)) (some n) (b0 :: suite) pos' :: hds) ((c, i, ts) :: l)
section
variable {X : Cx} {body : List Stmt} {h0 : ExceptHandler} {hds : List ExceptHandler} {l : List (Value × Nat × (Addr → Value → Option Addr → TS))} {pos : Pos} {tb : WX → TS} {Wout : WX}
theorem ps_try_named (hs : X.stack = X.env :: X.outer) (hf : X.env.frame = some X.env.locals) (hN : X.N.Nodup) (tk : Takes X Wout)
    (hb : ∀ (W : WX) (pn : List (Addr × Obj)) (xe : Value → Shared → Prop), Takes (X.tr pn xe) W → PassesOwn (model X.prog X.w) X.A X.env xe → PSs (X.tr pn xe) body (tb W))
    (hh : HdsNamed X (h0 :: hds) l) : PS X (.Try body (h0 :: hds) [] [] pos) (fun D σ H => tb (wNamed X.K Wout D l) D σ H) := by
  refine ⟨fun pins s σ H D I h => ?_⟩
  have ok := I.ok
  have hfr : X.A.frames = some (X.env :: X.outer) := by rw [ok.frames, hs]
  refine wpAny_Try_except ?_
  have caught : Takes (X.tr (X.pn ++ pins) (fun e s1 => wpAny (model X.prog X.w) X.A (noteFrame e X.env) (fun _ s2 => wpAny (model X.prog X.w) X.A (setFlight e none) (fun _ s3 =>
      wpAny (model X.prog X.w) X.A (handleBy e X.env (h0 :: hds)) (SP X pins D) X.xe s3) X.xe s2) X.xe s1)) (wNamed X.K Wout D l) := by
    intro u s' xx
    obtain ⟨a, B, sI, pins', σ', H', cls, d, rfl, J', nb, up, sky, na, os, ag, wish⟩ := xx
    have J : L2.Inv X pins σ' H' sI := J'.ofTry ok
    have sky2 : Sky B (X.env :: X.outer) a (Zc cls d) X.env.locals s'.heap := by rw [← hs]; exact sky
    show wpAny (model X.prog X.w) X.A (noteFrame (.ref a) X.env) _ _ _
    refine Sky.land Zc.steady hfr hf sky2 fun h3 fly upto => ?_
    have J3 : L2.Inv X pins σ' H' { s' with heap := h3 } := J.landed nb fly.1 (up.trans upto) os ag
    obtain ⟨oe3, vs3, at3, zc3, dt3⟩ := fly.there
    have apart : a ∉ frs (X.env :: X.outer) := fun hm => by
      obtain ⟨_, o', e', hnf⟩ := fly.2.2.1.mem hm
      rw [at3] at e'
      cases e'
      exact hnf _ dt3
    have nL : a ≠ X.env.locals := fun z => apart (List.mem_filterMap.mpr ⟨X.env, List.mem_cons_self, by rw [hf, z]⟩)
    have nF : a ∉ X.fs := fun hm => by
      obtain ⟨e, he, q⟩ := List.mem_filterMap.mp hm
      exact apart (List.mem_filterMap.mpr ⟨e, List.mem_cons_of_mem _ he, q⟩)
    have S3 := J3.suite at3 dt3 na nL nF
    have walk : ∀ {hds' : List ExceptHandler} {l' : List (Value × Nat × (Addr → Value → Option Addr → TS))}, HdsNamed X hds' l' → wNamed X.K Wout D l' cls d σ' H' →
        wpAny (model X.prog X.w) X.A (handleBy (.ref a) X.env hds') (SP X pins D) X.xe { s' with heap := h3 } := by
      intro hds' l' hk
      induction hk with
      | nil =>
        intro wish
        refine wpAny_handleBy_nil ?_
        obtain ⟨_, _, _, oe, vs, T, oT, ts', ato, zo, dto, first1, _⟩ := id fly
        unfold PySem.passOn
        refine wpAny_bind (wpAny_field ato dto first1 ?_)
        rw [if_neg (show ¬ ((Value.ref T == Value.none) = true) from by simp)]
        have on : wpAny (model X.prog X.w) X.A (setFlight (.ref a) X.env.frame) (fun _ s4 => wpAny (model X.prog X.w) X.A (throw (.ref a) : Sem Flow) (SP X pins D) X.xe s4) X.xe { s' with heap := h3 } := by
          rw [hf]
          refine HandSPX.setFlight_upZ fly fun h4 held up4 => wpAny_throw (tk _ _ ?_)
          exact ⟨a, B, sI, pins, σ', H', cls, d, rfl, J, nb, (up.trans upto).trans up4, .inr (.inr (by rw [hs]; exact held)), na, os, ag, wish⟩
        first
          | exact wpAny_bind (wpAny_pure (wpAny_bind on))
          | exact wpAny_bind on
      | @cons x n c i ts b0 suite np pos' hds2 l2 hc hi hln hsu r ih =>
        intro wish
        obtain ⟨b, says, yes, no⟩ := wish
        refine wpAny_handleBy_cons (codeAny_handlers_test ?_) (by intro q; cases q)
        have LT : PySem.W.Looks (model X.prog X.w) h3 (typeOf (.ref a)) cls := fun A Q E s k q => wpAny_typeOf_ref (k _ _ at3) (by rw [zc3.1]; exact q)
        have LM := PySem.W.exm_one (M := model X.prog X.w) (J3.kIn) LT says
        have named : ∀ {Q : Value → Shared → Prop} {E : Value → Shared → Prop}, Q c { s' with heap := h3 } → wpAny (model X.prog X.w) (X.A.mark (some (.ref a))) (eval (.Name x np) X.env) Q E { s' with heap := h3 } := fun {Q E} q => by
          obtain ⟨hg, hdbg, hm | ⟨hm, hv, hnn⟩⟩ := hc
          · exact ld_glob (X := X.suite a ((a, oe3) :: (X.pn ++ pins))) S3 hg hm q hdbg
          · exact ld_blt (X := X.suite a ((a, oe3) :: (X.pn ++ pins))) S3 hg hm hv q hnn hdbg
        refine named (LM.here ?_)
        cases b with
        | true =>
          refine codeAny_handlers_suite_as ?_
          refine HandSPX.lands_againZ fly fun h4 fly4 up4 => ?_
          have J4 : L2.Inv X pins σ' H' { s' with heap := h4 } := J.landed nb fly4.1 ((up.trans upto).trans up4) os ag
          obtain ⟨oe4, vs4, at4, zc4, dt4⟩ := fly4.there
          have S4 := J4.suite at4 dt4 na nL nF
          refine store_ok (X := X.suite a ((a, oe4) :: (X.pn ++ pins))) (v := .ref a) S4 hN hi (.inl hln) rfl (fun s5 S5 => ?_) (.inr hln)
          refine wpAny_mono ((hsu a oe4 cls d (X.pn ++ pins) zc4 ⟨_, dt4⟩).run [] s5 _ H' _ S5 (yes rfl a na)) (fun fl s6 hsp => ?_) (fun _ _ z => False.elim z)
          have goes : ∀ {σ6 : L2.St} {H6 : Hp} {Q : Shared → Prop}, L2.Inv (X.suite a ((a, oe4) :: (X.pn ++ pins))) [] σ6 H6 s6 → (∀ s7, L2.Inv X pins (σ6.set i none) H6 s7 → Q s7) →
              wpAny (model X.prog X.w) X.A (do bindName X.env n .none; unbindBehindTheSuite X.env n pos') (fun _ s7 => Q s7) X.xe s6 := fun {σ6 H6 Q} S6 hq => gone_ok (S6.unsuite ok) hN hi hln hq
          cases fl with
          | next => obtain ⟨σ6, H6, S6, q6⟩ := hsp; exact goes S6 fun s7 J7 => ⟨_, _, J7, q6⟩
          | brk => obtain ⟨σ6, H6, S6, q6⟩ := hsp; exact goes S6 fun s7 J7 => ⟨_, _, J7, q6⟩
          | cont => obtain ⟨σ6, H6, S6, q6⟩ := hsp; exact goes S6 fun s7 J7 => ⟨_, _, J7, q6⟩
          | ret u => obtain ⟨v6, σ6, H6, S6, r6, q6⟩ := hsp; exact goes S6 fun s7 J7 => ⟨_, _, _, J7, r6, q6⟩
        | false =>
          show wpAny _ X.A (handleBy (.ref a) X.env hds2) _ _ _
          exact ih (no rfl)
    exact walk hh wish
  refine wpAny_mono ((hb (wNamed X.K Wout D l) (X.pn ++ pins) _ caught PassesOwn.looking).run [] s σ H D (I.toTry _) h) (fun fl s1 hsp => ?_) (fun e s1 he => he)
  cases fl with
  | next => obtain ⟨σ', H', J', q⟩ := hsp; exact wpAny_execs_nil ⟨σ', H', J'.ofTry ok, q⟩
  | brk => obtain ⟨σ', H', J', q⟩ := hsp; exact ⟨σ', H', J'.ofTry ok, q⟩
  | cont => obtain ⟨σ', H', J', q⟩ := hsp; exact ⟨σ', H', J'.ofTry ok, q⟩
  | ret u => obtain ⟨v, σ', H', J', r, q⟩ := hsp; exact ⟨v, σ', H', J'.ofTry ok, r, q⟩
end
end K14
set_option maxRecDepth 100000
set_option maxHeartbeats 4000000
namespace K14
open PySem PySem.Spec PyProof.Rows L2
/-! ### rules whose reading names the written part by a letter (for blocks) -/
section
variable {X : Cx} {K : PySem.W.Frag}
theorem ixL (h : X.K = K) : IxR X (rIxL K) := by subst h; exact ix_list
theorem ixT (h : X.K = K) : IxR X (rIxT K) := by subst h; exact ix_tup
theorem piL {tg l : Expr} {tl : TE} (h : X.K = K) (hl : PE X l tl) : PI X tg l (iList K tl) := by subst h; exact pi_list hl
end
/-- what the top has written, for the walk -/
structure Top (P : Program) (K : PySem.W.Frag) (mg : Str → Option Value) where
  d_is_int : Df K mg "is_int" (topS 8) ["value"]
  d_is_count : Df K mg "is_count" (topS 9) ["value"]
  d_has_size : Df K mg "has_size" (topS 10) ["value", "size"]
  d_is_word : Df K mg "is_word" (topS 11) ["value"]
  d_are_triples : Df K mg "_are_triples" (topS 13) ["table"]
  d_is_prices : Df K mg "is_prices" (topS 14) ["value"]
  d_need_prices : Df K mg "need_prices" (topS 15) ["prices"]
  d_price_between : Df K mg "price_between" (topS 16) ["prices", "word", "other"]
  d_table_ahead : Df K mg "table_ahead" (topS 18) ["a", "b", "prices"]
  d_row_distance : Df K mg "row_distance" (topS 19) ["a", "b", "prices"]
  d_is_forest_value : Df K mg "is_forest_value" (topS 21) ["value"]
  d_need_forest : Df K mg "need_forest" (topS 22) ["a"]
  d_need_forests : Df K mg "need_forests" (topS 23) ["a", "b"]
  d_put_nodes : Df K mg "_put_nodes" (topS 24) ["a", "parent", "words", "parents"]
  d_listed : Df K mg "listed" (topS 25) ["a"]
  d_words_of : Df K mg "words_of" (topS 26) ["a"]
  d_sizes_by : Df K mg "sizes_by" (topS 27) ["parents"]
  d_levels_by : Df K mg "levels_by" (topS 28) ["parents"]
  d_posts_by : Df K mg "posts_by" (topS 29) ["parents"]
  d_nodes_behind : Df K mg "nodes_behind" (topS 30) ["a"]
  d_firsts_of : Df K mg "firsts_of" (topS 31) ["a"]
  d_looked_at : Df K mg "_looked_at" (topS 35) ["a", "b", "prices"]
  d_forest_distance : Df K mg "forest_distance" (topS 36) ["a", "b", "prices"]
  d_law_cell : Df K mg "_law_cell" (topS 38) ["_law_script", "_law_k"]
  d_law_mix : Df K mg "_law_mix" (topS 39) ["_law_cell_here", "_law_salt"]
  d_law_box : Df K mg "_law_box" (topS 40) ["_law_script", "_law_at"]
  d_law_draw : Df K mg "_law_draw" (topS 41) ["_law_box_here", "_law_many"]
  d_law_word : Df K mg "_law_word" (topS 42) ["_law_box_here"]
  d_law_parents : Df K mg "_law_parents" (topS 43) ["_law_box_here", "_law_many"]
  d_law_forest : Df K mg "_law_forest" (topS 44) ["_law_words", "_law_parents_here"]
  d_law_sizes : Df K mg "_law_sizes" (topS 45) ["_law_parents_here"]
  d_law_depths : Df K mg "_law_depths" (topS 46) ["_law_parents_here"]
  d_law_posts : Df K mg "_law_posts" (topS 47) ["_law_parents_here"]
  d_law_price : Df K mg "_law_price" (topS 48) ["_law_box_here"]
  d_law_prices : Df K mg "_law_prices" (topS 49) ["_law_box_here", "_law_words"]
  d_law_change : Df K mg "_law_change" (topS 50) ["_law_prices_here", "_law_word_here", "_law_other_here"]
  d_law_bad_prices : Df K mg "_law_bad_prices" (topS 51) ["_law_box_here", "_law_prices_here"]
  d_law_other : Df K mg "_law_other" (topS 52) ["_law_box_here", "_law_words", "_law_parents_here", "_law_most"]
  d_law_bad_word : Df K mg "_law_bad_word" (topS 53) ["_law_box_here"]
  d_law_bad_tree : Df K mg "_law_bad_tree" (topS 54) ["_law_box_here", "_law_word_here", "_law_children"]
  d_law_bad : Df K mg "_law_bad" (topS 55) ["_law_box_here", "_law_words", "_law_parents_here"]
  d_law_alike : Df K mg "_law_alike" (topS 56) ["_law_told", "_law_due"]
  d_law_mirrored : Df K mg "_law_mirrored" (topS 57) ["_law_words", "_law_parents_here"]
  d_law_posted : Df K mg "_law_posted" (topS 58) ["_law_words", "_law_parents_here"]
  d_law_stretches : Df K mg "_law_stretches" (topS 59) ["_law_leaves"]
  d_law_filled : Df K mg "_law_filled" (topS 60) ["_law_one", "_law_other_here", "_law_prices_here", "_law_trees", "_law_first", "_law_second"]
  d_law_distance : Df K mg "_law_distance" (topS 61) ["_law_first", "_law_second", "_law_prices_here"]
  d_law_asked : Df K mg "_law_asked" (topS 62) ["_law_a", "_law_b", "_law_prices_here"]
  d_law_refused : Df K mg "_law_refused" (topS 63) ["_law_a", "_law_b", "_law_prices_here", "_law_bad_here", "_law_other_here", "_law_spoilt"]
  d_law_positive : Df K mg "_law_positive" (topS 64) ["_law_prices_here"]
  d_law_flat : Df K mg "_law_flat" (topS 65) ["_law_words", "_law_others", "_law_prices_here"]
  d_law_joined : Df K mg "_law_joined" (topS 66) ["_law_a", "_law_b", "_law_c", "_law_price_here", "_law_prices_here"]
  d_law : Df K mg "law" (topS 67) ["_law_script"]
  CS : Addr
  S_cl : Cls K CS
  S_g : mg "Stretches" = some (.ref CS)
  m_init : Mf K CS "__init__" "Stretches.__init__" (inClass (topS 33) 0) ["self", "a", "b", "prices"]
  m_whole : Mf K CS "whole" "Stretches.whole" (inClass (topS 33) 1) ["self"]
  m_change : Mf K CS "change" "Stretches.change" (inClass (topS 33) 2) ["self", "high", "end"]
  m_parts : Mf K CS "parts" "Stretches.parts" (inClass (topS 33) 3) ["self", "key"]
  m_least : Mf K CS "least" "Stretches.least" (inClass (topS 33) 4) ["self", "key"]
  S_mk : Mk K CS m_init.f
  n_nodes : NoAttr K CS "nodes"
  n_others : NoAttr K CS "others"
  n_words : NoAttr K CS "words"
  n_words_there : NoAttr K CS "words_there"
  n_firsts : NoAttr K CS "firsts"
  n_firsts_there : NoAttr K CS "firsts_there"
  n_prices : NoAttr K CS "prices"
  n_known : NoAttr K CS "known"
  z_all : mg "all" = none
  z_bool : mg "bool" = none
  z_enumerate : mg "enumerate" = none
  z_int : mg "int" = none
  z_isinstance : mg "isinstance" = none
  z_len : mg "len" = none
  z_list : mg "list" = none
  z_max : mg "max" = none
  z_min : mg "min" = none
  z_range : mg "range" = none
  z_reversed : mg "reversed" = none
  z_str : mg "str" = none
  z_sum : mg "sum" = none
  z_tuple : mg "tuple" = none
  tL : Tok
  v_LETTERS : mg "LETTERS" = some (.str (PySem.Str.ofString "abcdefghijklmnopqrstuvwxyz") tL)
  tM : Tok
  v_MOST_LETTERS : mg "MOST_LETTERS" = some (.int 8 tM)
  C1 : Addr
  I1 : Addr
  x_InvalidForest : K14X.InvC P K mg "InvalidForest" "InvalidForest.__init__" C1 I1
  C2 : Addr
  I2 : Addr
  x_InvalidPrices : K14X.InvC P K mg "InvalidPrices" "InvalidPrices.__init__" C2 I2
  e21 : PySem.W.exmOne K (.ref C2) (.ref C1) = some false
  k_forest_distance : KBinds K d_forest_distance.fd ["a", "b", "prices"] ["prices", "b", "a"] (fun us ws => us ++ ws.reverse) (fun vs zs => vs ++ zs.reverse)
end K14
set_option maxRecDepth 100000
set_option maxHeartbeats 4000000
/-! Values as data: words, forests, prices. -/
namespace K14
open PySem PySem.Spec PyProof.Rows L2
theorem dp_tup {K : PySem.W.Frag} {H : Hp} {v : V} {ds : List PyData} (h : Dp K H v (.tuple ds)) : ∃ a xs, v = .ref a ∧ SqT K H a xs ∧ DpAll K H xs ds := by
  cases h with
  | tup h a => exact ⟨_, _, rfl, h, a⟩
theorem dp_lst {K : PySem.W.Frag} {H : Hp} {v : V} {ds : List PyData} (h : Dp K H v (.list ds)) : ∃ a xs, v = .ref a ∧ SqL K H a xs ∧ DpAll K H xs ds := by
  cases h with
  | lst h a => exact ⟨_, _, rfl, h, a⟩
theorem dp_int {K : PySem.W.Frag} {H : Hp} {v : V} {i : Int} (h : Dp K H v (.int i)) : v = .int i := by cases h; rfl
theorem dp_str {K : PySem.W.Frag} {H : Hp} {v : V} {i : Str} (h : Dp K H v (.str i)) : v = .str i := by cases h; rfl
theorem dpAll_nil {K : PySem.W.Frag} {H : Hp} {xs : List V} (h : DpAll K H xs []) : xs = [] := by cases h; rfl
theorem dpAll_cons {K : PySem.W.Frag} {H : Hp} {xs : List V} {d : PyData} {ds : List PyData} (h : DpAll K H xs (d :: ds)) : ∃ v vs, xs = v :: vs ∧ Dp K H v d ∧ DpAll K H vs ds := by
  cases h with
  | cons a b => exact ⟨_, _, rfl, a, b⟩
theorem dpAll_at {K : PySem.W.Frag} {H : Hp} : ∀ {vs : List V} {ds : List PyData} {i : Nat} {d : PyData}, DpAll K H vs ds → ds[i]? = some d → ∃ v, vs[i]? = some v ∧ Dp K H v d
  | _, _, _, _, .nil, e => by simp at e
  | _, _, 0, _, .cons h _, e => by
    simp at e
    subst e
    exact ⟨_, rfl, h⟩
  | _, _, i + 1, _, .cons _ t, e => dpAll_at (i := i) t (by simpa using e)
theorem dp_flat {K : PySem.W.Frag} {H : Hp} {v : V} {d : PyData} (h : Dp K H v d) (n : ∀ xs, d ≠ .list xs) (m : ∀ xs, d ≠ .tuple xs) : (∃ b, d = .bool b ∧ v = .bl b) ∨ (d = .none ∧ v = .non) ∨ (∃ i, d = .int i ∧ v = .int i) ∨ ∃ s, d = .str s ∧ v = .str s := by
  cases h with
  | non => exact .inr (.inl ⟨rfl, rfl⟩)
  | bl b => exact .inl ⟨_, rfl, rfl⟩
  | int i => exact .inr (.inr (.inl ⟨_, rfl, rfl⟩))
  | str x => exact .inr (.inr (.inr ⟨_, rfl, rfl⟩))
  | lst _ _ => exact absurd rfl (n _)
  | tup _ _ => exact absurd rfl (m _)
/-! ### what the program's looks answer -/
def letters : Str := PySem.Str.ofString "abcdefghijklmnopqrstuvwxyz"
def wordOk (s : Str) : Bool := decide (1 ≤ s.length) && (decide (s.length ≤ 8) && s.cps.toList.all fun c => decide (c ∈ letters.cps.toList))
def dInt : PyData → Bool
  | .int _ => true
  | _ => false
def dCount : PyData → Bool
  | .int i => decide (0 ≤ i)
  | _ => false
def dSize (n : Int) : PyData → Bool
  | .tuple xs => decide ((xs.length : Int) = n)
  | _ => false
def dWord : PyData → Bool
  | .str s => wordOk s
  | _ => false
mutual
def dForest : PyData → Bool
  | .tuple xs => dTrees xs
  | _ => false
def dTrees : List PyData → Bool
  | [] => true
  | x :: xs => dTree x && dTrees xs
def dTree : PyData → Bool
  | .tuple ys => dPair ys
  | _ => false
def dPair : List PyData → Bool
  | w :: r => dWord w && dTail r
  | _ => false
def dTail : List PyData → Bool
  | c :: r => r.isEmpty && dForest c
  | _ => false
end
def trOk : List PyData → List PyData → Bool
  | _, [] => true
  | seen, t :: r => match t with
    | .tuple [a, b, c] => (dWord a && (dWord b && dCount c)) && (!(PyData.eqv a b) && (!(seen.any fun z => PyData.eqv z (.tuple [a, b])) && trOk (seen ++ [.tuple [a, b]]) r))
    | _ => false
def dTriples : PyData → Bool
  | .tuple ts => trOk [] ts
  | _ => false
def dPrices : PyData → Bool
  | .tuple [a, b, c, t] => (dCount a && (dCount b && dCount c)) && dTriples t
  | _ => false
/-! ### a word may stand in data -/
theorem letters_ok : ∀ c ∈ letters.cps.toList, 97 ≤ c ∧ c ≤ 122 := by decide +kernel
theorem wordOk_iff {s : Str} (h : wordOk s = true) : 1 ≤ s.length ∧ s.length ≤ 8 ∧ ∀ c ∈ s.cps.toList, c ∈ letters.cps.toList := by
  unfold wordOk at h
  simp only [Bool.and_eq_true, decide_eq_true_eq, List.all_eq_true] at h
  exact ⟨h.1, h.2.1, h.2.2⟩
end K14
set_option maxRecDepth 100000
set_option maxHeartbeats 4000000
namespace K14
open PySem PySem.Spec PyProof.Rows L2
/-! ### isinstance over data -/
def dBoolB : PyData → Bool
  | .bool _ => true
  | _ => false
def dStrB : PyData → Bool
  | .str _ => true
  | _ => false
def dTupleB : PyData → Bool
  | .tuple _ => true
  | _ => false
def dListB : PyData → Bool
  | .list _ => true
  | _ => false
def dIntB : PyData → Bool
  | .int _ => true
  | .bool _ => true
  | _ => false
theorem isi_int (K : PySem.W.Frag) (d : PyData) : PySem.W.kitOne K (.type (dTy d)) (.type "int") = some (dIntB d) := match d with
  | .none => kit_ty (a := "NoneType") (b := "int") (r := false) (by decide +kernel)
  | .bool _ => kit_ty (a := "bool") (b := "int") (r := true) (by decide +kernel)
  | .int _ => kit_ty (a := "int") (b := "int") (r := true) (by decide +kernel)
  | .str _ => kit_ty (a := "str") (b := "int") (r := false) (by decide +kernel)
  | .list _ => kit_ty (a := "list") (b := "int") (r := false) (by decide +kernel)
  | .tuple _ => kit_ty (a := "tuple") (b := "int") (r := false) (by decide +kernel)
  | .dict _ => kit_ty (a := "dict") (b := "int") (r := false) (by decide +kernel)
theorem isi_bool (K : PySem.W.Frag) (d : PyData) : PySem.W.kitOne K (.type (dTy d)) (.type "bool") = some (dBoolB d) := match d with
  | .none => kit_ty (a := "NoneType") (b := "bool") (r := false) (by decide +kernel)
  | .bool _ => kit_ty (a := "bool") (b := "bool") (r := true) (by decide +kernel)
  | .int _ => kit_ty (a := "int") (b := "bool") (r := false) (by decide +kernel)
  | .str _ => kit_ty (a := "str") (b := "bool") (r := false) (by decide +kernel)
  | .list _ => kit_ty (a := "list") (b := "bool") (r := false) (by decide +kernel)
  | .tuple _ => kit_ty (a := "tuple") (b := "bool") (r := false) (by decide +kernel)
  | .dict _ => kit_ty (a := "dict") (b := "bool") (r := false) (by decide +kernel)
theorem isi_str (K : PySem.W.Frag) (d : PyData) : PySem.W.kitOne K (.type (dTy d)) (.type "str") = some (dStrB d) := match d with
  | .none => kit_ty (a := "NoneType") (b := "str") (r := false) (by decide +kernel)
  | .bool _ => kit_ty (a := "bool") (b := "str") (r := false) (by decide +kernel)
  | .int _ => kit_ty (a := "int") (b := "str") (r := false) (by decide +kernel)
  | .str _ => kit_ty (a := "str") (b := "str") (r := true) (by decide +kernel)
  | .list _ => kit_ty (a := "list") (b := "str") (r := false) (by decide +kernel)
  | .tuple _ => kit_ty (a := "tuple") (b := "str") (r := false) (by decide +kernel)
  | .dict _ => kit_ty (a := "dict") (b := "str") (r := false) (by decide +kernel)
theorem isi_tuple (K : PySem.W.Frag) (d : PyData) : PySem.W.kitOne K (.type (dTy d)) (.type "tuple") = some (dTupleB d) := match d with
  | .none => kit_ty (a := "NoneType") (b := "tuple") (r := false) (by decide +kernel)
  | .bool _ => kit_ty (a := "bool") (b := "tuple") (r := false) (by decide +kernel)
  | .int _ => kit_ty (a := "int") (b := "tuple") (r := false) (by decide +kernel)
  | .str _ => kit_ty (a := "str") (b := "tuple") (r := false) (by decide +kernel)
  | .list _ => kit_ty (a := "list") (b := "tuple") (r := false) (by decide +kernel)
  | .tuple _ => kit_ty (a := "tuple") (b := "tuple") (r := true) (by decide +kernel)
  | .dict _ => kit_ty (a := "dict") (b := "tuple") (r := false) (by decide +kernel)
theorem isi_list (K : PySem.W.Frag) (d : PyData) : PySem.W.kitOne K (.type (dTy d)) (.type "list") = some (dListB d) := match d with
  | .none => kit_ty (a := "NoneType") (b := "list") (r := false) (by decide +kernel)
  | .bool _ => kit_ty (a := "bool") (b := "list") (r := false) (by decide +kernel)
  | .int _ => kit_ty (a := "int") (b := "list") (r := false) (by decide +kernel)
  | .str _ => kit_ty (a := "str") (b := "list") (r := false) (by decide +kernel)
  | .list _ => kit_ty (a := "list") (b := "list") (r := true) (by decide +kernel)
  | .tuple _ => kit_ty (a := "tuple") (b := "list") (r := false) (by decide +kernel)
  | .dict _ => kit_ty (a := "dict") (b := "list") (r := false) (by decide +kernel)
section
variable {P : Program} {w : World} {K : PySem.W.Frag} {mg : Str → Option Value} {base : Heap}
/-- what a test of one value answers, nothing changed -/
def sp1 (K : PySem.W.Frag) (f : PyData → Bool) : Sp := fun vs H Q _ => ∃ v d, vs = [v] ∧ Dp K H v d ∧ Q (.bl (f d)) H
/-- .. new things made -/
def sp1s (K : PySem.W.Frag) (f : PyData → Bool) : Sp := fun vs H Q _ => ∃ v d, vs = [v] ∧ Dp K H v d ∧ ∀ H', Same H H' → Q (.bl (f d)) H'
theorem scisint : FnScope ["value"] ["value"] (defScope (topS 8)) := ⟨rfl, rfl, rfl, by decide +kernel, rfl, by decide +kernel, by decide +kernel⟩
theorem ok_is_int (T : Top P K mg) : FnOk P w K mg base CX0 1 T.d_is_int.f T.d_is_int.fd ["value"] (sp1 K dInt) := by
  refine T.d_is_int.F.ok scisint (fun vs H Q E h => ?_) (fun cdv A outer s H vs Q E hr h => ?_)
  · obtain ⟨v, d, rfl, _⟩ := h
    rfl
  · obtain ⟨v, d, rfl, hd, q⟩ := h
    refine ⟨_, pss_one (ps_ret (pe_and (pe_callB call_isi rfl T.z_isinstance (by decide +kernel) (pa_cons (pv 0) (pa_cons (pe_bltn (v := .ty "int") (by rfl) T.z_int boot_int rfl) pa_nil))) (pe_one (pe_not (pe_callB call_isi rfl T.z_isinstance (by decide +kernel) (pa_cons (pv 0) (pa_cons (pe_bltn (v := .ty "bool") (by rfl) T.z_bool boot_bool rfl) pa_nil))))))), ?_⟩
    refine ⟨v, rfl, v, _, _, _, _, rfl, .ty "int", ty_dp hd, isi_int K d, _, rfl, ?_⟩
    cases d with
    | int i => exact ⟨_, rfl, _, _, _, _, _, rfl, .ty "bool", ty_dp hd, isi_bool K _, _, rfl, q⟩
    | bool b => exact ⟨_, rfl, _, _, _, _, _, rfl, .ty "bool", ty_dp hd, isi_bool K _, _, rfl, q⟩
    | _ => exact q
theorem sciscount : FnScope ["value"] ["value"] (defScope (topS 9)) := ⟨rfl, rfl, rfl, by decide +kernel, rfl, by decide +kernel, by decide +kernel⟩
theorem ok_is_count (T : Top P K mg) : FnOk P w K mg base CX0 2 T.d_is_count.f T.d_is_count.fd ["value"] (sp1 K dCount) := by
  refine T.d_is_count.F.ok sciscount (fun vs H Q E h => ?_) (fun cdv A outer s H vs Q E hr h => ?_)
  · obtain ⟨v, d, rfl, _⟩ := h
    rfl
  · obtain ⟨v, d, rfl, hd, q⟩ := h
    refine ⟨_, pss_one (ps_ret (pe_and (pe_call (ok_is_int T) (hr.mono (by omega)) rfl T.d_is_int.g T.d_is_int.F.kp T.d_is_int.b .nil pass0 (pa_cons (pv 0) pa_nil)) (pe_one (pe_cmpR op_ge (pv 0) (pe_int) (nomark _))))), ?_⟩
    refine ⟨v, rfl, v, d, rfl, hd, _, rfl, ?_⟩
    cases d with
    | int i =>
      cases dp_int hd
      exact ⟨_, rfl, i, 0, rfl, rfl, q⟩
    | _ => exact q
theorem schassize : FnScope ["value", "size"] ["value", "size"] (defScope (topS 10)) := ⟨rfl, rfl, rfl, by decide +kernel, rfl, by decide +kernel, by decide +kernel⟩
def spSize (K : PySem.W.Frag) : Sp := fun vs H Q _ => ∃ v d n, vs = [v, .int n] ∧ Dp K H v d ∧ Q (.bl (dSize n d)) H
theorem ok_has_size (T : Top P K mg) : FnOk P w K mg base CX0 1 T.d_has_size.f T.d_has_size.fd ["value", "size"] (spSize K) := by
  refine T.d_has_size.F.ok schassize (fun vs H Q E h => ?_) (fun cdv A outer s H vs Q E hr h => ?_)
  · obtain ⟨v, d, n, rfl, _⟩ := h
    rfl
  · obtain ⟨v, d, n, rfl, hd, q⟩ := h
    refine ⟨_, pss_one (ps_ret (pe_and (pe_callB call_isi rfl T.z_isinstance (by decide +kernel) (pa_cons (pv 0) (pa_cons (pe_bltn (v := .ty "tuple") (by rfl) T.z_tuple boot_tuple rfl) pa_nil))) (pe_one (pe_cmpR op_eq (pe_callB call_len_seq rfl T.z_len PySem.boot_len (pa_cons (pv 0) pa_nil)) (pv 1) (nomark _))))), ?_⟩
    refine ⟨v, rfl, v, _, _, _, _, rfl, .ty "tuple", ty_dp hd, isi_tuple K d, _, rfl, ?_⟩
    cases d with
    | tuple ds =>
      obtain ⟨a, xs, rfl, hS, hA⟩ := dp_tup hd
      refine ⟨_, rfl, a, xs, rfl, .inr hS, _, rfl, rfl, ?_⟩
      show Q (.bl (decide (V.int (xs.length : Int) = V.int n))) H
      have e : dSize n (.tuple ds) = decide (V.int (xs.length : Int) = V.int n) := by
        show decide ((ds.length : Int) = n) = _
        rw [← dpAll_len hA]
        by_cases h : (xs.length : Int) = n
        · rw [h]
          simp
        · rw [decide_eq_false h, decide_eq_false fun z => h (V.int.inj z)]
      rw [← e]
      exact q
    | _ => exact q
/-! ### what may be looked at: strings of at most 1000 signs, at most n deep -/
mutual
def fit : PyData → Nat → Bool
  | .none, _ => true
  | .bool _, _ => true
  | .int _, _ => true
  | .str s, _ => decide (s.length ≤ 1000)
  | .list xs, n + 1 => decide (xs.length ≤ 1000) && fitAll xs n
  | .tuple xs, n + 1 => decide (xs.length ≤ 1000) && fitAll xs n
  | _, _ => false
def fitAll : List PyData → Nat → Bool
  | [], _ => true
  | x :: xs, n => fit x n && fitAll xs n
end
theorem fit_tup {xs : List PyData} {n : Nat} (h : fit (.tuple xs) n = true) : ∃ m, n = m + 1 ∧ xs.length ≤ 1000 ∧ fitAll xs m = true := by
  cases n with
  | zero => simp [fit] at h
  | succ m =>
    simp only [fit, Bool.and_eq_true, decide_eq_true_eq] at h
    exact ⟨m, rfl, h⟩
theorem fit_lst {xs : List PyData} {n : Nat} (h : fit (.list xs) n = true) : ∃ m, n = m + 1 ∧ xs.length ≤ 1000 ∧ fitAll xs m = true := by
  cases n with
  | zero => simp [fit] at h
  | succ m =>
    simp only [fit, Bool.and_eq_true, decide_eq_true_eq] at h
    exact ⟨m, rfl, h⟩
theorem fitAll_at : ∀ {xs : List PyData} {n i : Nat} {d : PyData}, fitAll xs n = true → xs[i]? = some d → fit d n = true
  | [], _, _, _, _, e => by simp at e
  | x :: xs, n, 0, d, h, e => by
    simp at e
    subst e
    simp only [fitAll, Bool.and_eq_true] at h
    exact h.1
  | x :: xs, n, i + 1, d, h, e => by
    simp only [fitAll, Bool.and_eq_true] at h
    exact fitAll_at h.2 (by simpa using e)
theorem scisword : FnScope ["value", "sign"] ["value"] (defScope (topS 11)) := ⟨rfl, rfl, rfl, by decide +kernel, rfl, by decide +kernel, by decide +kernel⟩
def spWord (K : PySem.W.Frag) : Sp := fun vs H Q _ => ∃ v d n, vs = [v] ∧ Dp K H v d ∧ fit d n = true ∧ ∀ H', Same H H' → Q (.bl (dWord d)) H'
theorem ok_is_word (T : Top P K mg) : FnOk P w K mg base CX0 1 T.d_is_word.f T.d_is_word.fd ["value"] (spWord K) := by
  refine T.d_is_word.F.ok scisword (fun vs H Q E h => ?_) (fun cdv A outer s H vs Q E hr h => ?_)
  · obtain ⟨v, d, n, rfl, _⟩ := h
    rfl
  · obtain ⟨v, d, n, rfl, hd, hf, q⟩ := h
    refine ⟨_, pss_cons (ps_if (PW.pt (pw_or (pt_not (pt_val (pe_callB call_isi rfl T.z_isinstance (by decide +kernel) (pa_cons (pv 0) (pa_cons (pe_bltn (v := .ty "str") (by rfl) T.z_str boot_str rfl) pa_nil))))) (pw_or1 (pt_not (pt_chain op_le op_le (pe_int) (pe_callB call_len_str rfl T.z_len PySem.boot_len (pa_cons (pv 0) pa_nil)) (pe_glob (v := .int 8) rfl T.v_MOST_LETTERS ⟨_, rfl⟩))))))
      (pss_one (ps_ret (pe_bl)))
      (pss_nil))
      (pss_one (ps_ret (pe_callB (cr_all rfl) rfl T.z_all (by decide +kernel) (pa_cons (pe_lc (own := [("sign", 1)]) (g := gName 1) (tt := tYes) rfl scisword.nd (pi_str (pv 0)) (blkOk_by (own := [("sign", 1)]) (N := ["value", "sign"]) (sc := defScope (topS 11)) (by decide +kernel)) (fun _ _ _ _ _ => pg_name (i := 1) scisword.nd rfl (.inl rfl)) (fun _ _ _ _ _ => pts_nil) (fun _ _ _ _ _ => pe_cmpR op_in_sign (pv 1) (pe_glob (v := .str letters) rfl T.v_LETTERS ⟨_, rfl⟩) (by rfl))) pa_nil)))), ?_⟩
    refine ⟨v, rfl, v, _, _, _, _, rfl, .ty "str", ty_dp hd, isi_str K d, _, rfl, ?_⟩
    cases d with
    | str z =>
      cases dp_str hd
      have hz : z.length ≤ 1000 := by
        simp only [fit, decide_eq_true_eq] at hf
        exact hf
      have hzl : z.length ≤ sizeLine := sz_of (by omega)
      have ew : ∀ b : Bool, (dWord (.str z) = b) → ∀ H', Same H H' → Q (.bl b) H' := fun b e H' s => by
        rw [← e]
        exact q H' s
      refine ⟨_, rfl, z, rfl, hzl, 1, (z.length : Int), rfl, rfl, _, rfl, ?_⟩
      by_cases h1 : (1 : Int) ≤ (z.length : Int)
      · rw [decide_eq_true h1]
        refine ⟨(z.length : Int), 8, rfl, rfl, _, rfl, ?_⟩
        by_cases h2 : (z.length : Int) ≤ 8
        · rw [decide_eq_true h2]
          refine ⟨_, rfl, z, rfl, fun D hD => ?_⟩
          refine lc_it walk_str (fun i H' => Same H H' ∧ H' D = some (.lst ((z.cps.toList.take i).map fun c => V.bl (decide (c ∈ letters.cps.toList))))) ⟨same_new hD, upd_same⟩ (fun _ _ _ _ => trivial) ?_ ?_
          · rintro i x H1 H2 hi ⟨s1, e1⟩ ⟨rfl, c, hc, rfl⟩
            refine ⟨rfl, ?_⟩
            refine ⟨_, rfl, c, letters, rfl, rfl, _, e1, ?_, ?_, ?_⟩
            · rw [List.length_map, List.length_take]
              exact sz_lt (by have : z.cps.toList.length = z.length := by simp [Str.length]
                              omega)
            · exact same_set s1 hD
            · rw [upd_same, take_next (x := c) (by simpa using hc), List.map_append]
              rfl
          · rintro H1 ⟨s1, e1⟩
            refine ⟨D, z.cps.toList.map fun c => decide (c ∈ letters.cps.toList), rfl, .inl (.inl ?_), ?_⟩
            · rw [e1, List.take_of_length_le (by simp), List.map_map]
              rfl
            · refine ew _ ?_ H1 s1
              show wordOk z = _
              unfold wordOk
              rw [decide_eq_true (show 1 ≤ z.length by omega), decide_eq_true (show z.length ≤ 8 by omega), Bool.true_and, Bool.true_and, List.all_map]
              rfl
        · rw [decide_eq_false h2]
          refine ew false ?_ H (Same.refl H)
          show wordOk z = _
          unfold wordOk
          rw [decide_eq_false (show ¬ z.length ≤ 8 by omega), Bool.false_and, Bool.and_false]
      · rw [decide_eq_false h1]
        refine ⟨_, rfl, ?_⟩
        refine ew false ?_ H (Same.refl H)
        show wordOk z = _
        unfold wordOk
        rw [decide_eq_false (show ¬ 1 ≤ z.length by omega), Bool.false_and]
    | _ => exact q H (Same.refl H)
end
end K14
set_option maxRecDepth 100000
set_option maxHeartbeats 4000000
namespace K14
open PySem PySem.Spec PyProof.Rows L2
/-! ### pairs of words as data -/
def pairD (q : Str × Str) : PyData := .tuple [.str q.1, .str q.2]
theorem strOk_word {s : Str} (h : wordOk s = true) : PyData.strOk s = true := by
  have q := (wordOk_iff h).2.2
  unfold PyData.strOk
  rw [Array.all_eq_true]
  intro i hi
  have hm : s.cps[i] ∈ s.cps.toList := by simp
  have := letters_ok _ (q _ hm)
  exact decide_eq_true (by omega)
theorem pair_shaped {q : Str × Str} (h1 : wordOk q.1 = true) (h2 : wordOk q.2 = true) : SeqAt.shaped (pairD q) = true := by
  have e1 := strOk_word h1
  have e2 := strOk_word h2
  simp [SeqAt.shaped, pairD, PyData.canLay0, PyData.canLayAll0, e1, e2, PyData.depth, PyData.depthAll]
theorem pairs_lay : ∀ l : List (Str × Str), (∀ q ∈ l, wordOk q.1 = true ∧ wordOk q.2 = true) → PyData.canLayAll0 (l.map pairD) = true ∧ PyData.depthAll (l.map pairD) ≤ 1
  | [], _ => ⟨rfl, Nat.zero_le _⟩
  | q :: r, h => by
    obtain ⟨i1, i2⟩ := pairs_lay r fun z hz => h z (List.mem_cons_of_mem _ hz)
    obtain ⟨h1, h2⟩ := h q List.mem_cons_self
    have e1 := strOk_word h1
    have e2 := strOk_word h2
    refine ⟨?_, ?_⟩
    · simp [PyData.canLayAll0, pairD, PyData.canLay0, e1, e2]
      exact i1
    · simp only [List.map_cons, PyData.depthAll, pairD, PyData.depth]
      omega
theorem pairs_shaped {l : List (Str × Str)} (h : ∀ q ∈ l, wordOk q.1 = true ∧ wordOk q.2 = true) : SeqAt.shaped (.list (l.map pairD)) = true := by
  obtain ⟨h1, h2⟩ := pairs_lay l h
  unfold SeqAt.shaped
  rw [Bool.and_eq_true]
  refine ⟨by simpa only [PyData.canLay0] using h1, decide_eq_true ?_⟩
  simp only [PyData.depth]
  omega
theorem size3 {t : PyData} (h : dSize 3 t = true) : ∃ a b c, t = .tuple [a, b, c] := by
  cases t with
  | tuple xs =>
    have e : (xs.length : Int) = 3 := of_decide_eq_true h
    match xs, e with
    | [a, b, c], _ => exact ⟨a, b, c, rfl⟩
    | [], e => simp at e
    | [_], e => simp at e
    | [_, _], e => simp at e
    | _ :: _ :: _ :: _ :: r, e => simp at e; omega
  | _ => cases h
theorem size2 {t : PyData} (h : dSize 2 t = true) : ∃ a b, t = .tuple [a, b] := by
  cases t with
  | tuple xs =>
    have e : (xs.length : Int) = 2 := of_decide_eq_true h
    match xs, e with
    | [a, b], _ => exact ⟨a, b, rfl⟩
    | [], e => simp at e
    | [_], e => simp at e
    | _ :: _ :: _ :: r, e => simp at e; omega
  | _ => cases h
theorem size4 {t : PyData} (h : dSize 4 t = true) : ∃ a b c d, t = .tuple [a, b, c, d] := by
  cases t with
  | tuple xs =>
    have e : (xs.length : Int) = 4 := of_decide_eq_true h
    match xs, e with
    | [a, b, c, d], _ => exact ⟨a, b, c, d, rfl⟩
    | [], e => simp at e
    | [_], e => simp at e
    | [_, _], e => simp at e
    | [_, _, _], e => simp at e
    | _ :: _ :: _ :: _ :: _ :: r, e => simp at e; omega
  | _ => cases h
theorem trOk_no3 {t : PyData} (h : dSize 3 t = false) (seen r : List PyData) : trOk seen (t :: r) = false := by
  cases t with
  | tuple xs =>
    match xs, h with
    | [], _ => rfl
    | [_], _ => rfl
    | [_, _], _ => rfl
    | _ :: _ :: _ :: _ :: r, _ => rfl
    | [_, _, _], h => cases h
  | _ => rfl
theorem trOk_3 (a b c : PyData) (seen r : List PyData) : trOk seen (.tuple [a, b, c] :: r) =
    ((dWord a && (dWord b && dCount c)) && (!(PyData.eqv a b) && (!(seen.any fun z => PyData.eqv z (.tuple [a, b])) && trOk (seen ++ [.tuple [a, b]]) r))) := rfl
theorem dWord_str {d : PyData} (h : dWord d = true) : ∃ s, d = .str s ∧ wordOk s = true := by
  cases d with
  | str s => exact ⟨s, rfl, h⟩
  | _ => cases h
theorem eqv_str (a b : Str) : PyData.eqv (.str a) (.str b) = decide (V.str a = V.str b) := by
  have e : PyData.eqv (.str a) (.str b) = (a == b) := by simp only [PyData.eqv]
  rw [e]
  by_cases h : a = b
  · subst h
    simp
  · rw [decide_eq_false fun z => h (V.str.inj z)]
    exact beq_eq_false_iff_ne.mpr h
theorem cut_to (xs : List V) (n : Nat) : cutV xs none (some (n : Int)) = xs.take n := by
  unfold cutV
  rw [HT.sIx_none]
  show (xs.drop 0).take (HT.sIx xs.length xs.length (some (n : Int)) - 0) = _
  rw [HT.sIx_nat, List.drop_zero, Nat.sub_zero]
  by_cases h : n ≤ xs.length
  · rw [Nat.min_eq_left h]
  · rw [Nat.min_eq_right (by omega), List.take_of_length_le (Nat.le_refl _), List.take_of_length_le (by omega)]
theorem not_whole {xs : List V} {n : Nat} (h : n < xs.length) : ¬ (HT.sIx xs.length 0 none = 0 ∧ HT.sIx xs.length xs.length (some (n : Int)) = xs.length) := fun z => by
  have q := z.2
  rw [HT.sIx_nat] at q
  omega
/-! ### data without lists stays where a list is changed -/
mutual
def noList : PyData → Bool
  | .list _ => false
  | .dict _ => false
  | .tuple xs => noLists xs
  | _ => true
def noLists : List PyData → Bool
  | [] => true
  | x :: xs => noList x && noLists xs
end
theorem sqT_set {K : PySem.W.Frag} {H : Hp} {a sn : Addr} {xs : List V} {zs : List V} {o : HO} (h : SqT K H a xs) (hs : H sn = some (.lst zs)) : SqT K (upd H sn o) a xs := by
  rcases h with (h | ⟨ob, h⟩) | h
  · exact .inl (.inl (by rw [upd_ne (ne_of h hs (by intro z; cases z))]; exact h))
  · exact .inl (.inr ⟨ob, by rw [upd_ne (ne_of h hs (by intro z; cases z))]; exact h⟩)
  · exact .inr h
mutual
theorem dp_set {K : PySem.W.Frag} {H : Hp} {sn : Addr} {zs : List V} {o : HO} (hs : H sn = some (.lst zs)) : ∀ {v : V} {d : PyData}, noList d = true → Dp K H v d → Dp K (upd H sn o) v d
  | _, _, _, .non => .non
  | _, _, _, .bl b => .bl b
  | _, _, _, .int i => .int i
  | _, _, _, .str x => .str x
  | _, _, h, .lst _ _ => by simp [noList] at h
  | _, _, h, .tup q a => .tup (sqT_set q hs) (dps_set hs (by simpa only [noList] using h) a)
theorem dps_set {K : PySem.W.Frag} {H : Hp} {sn : Addr} {zs : List V} {o : HO} (hs : H sn = some (.lst zs)) : ∀ {vs : List V} {ds : List PyData}, noLists ds = true → DpAll K H vs ds → DpAll K (upd H sn o) vs ds
  | _, _, _, .nil => .nil
  | _, _, h, .cons q t => .cons (dp_set hs (by simp only [noLists, Bool.and_eq_true] at h; exact h.1) q) (dps_set hs (by simp only [noLists, Bool.and_eq_true] at h; exact h.2) t)
end
theorem noLists_pairs : ∀ l : List (Str × Str), noLists (l.map pairD) = true
  | [] => rfl
  | q :: r => by
    simp only [List.map_cons, noLists, pairD, noList, Bool.and_eq_true]
    exact ⟨⟨trivial, trivial, trivial⟩, noLists_pairs r⟩
section
variable {P : Program} {w : World} {K : PySem.W.Frag} {mg : Str → Option Value} {base : Heap}
/-- a test of one value that fits -/
def spLook (K : PySem.W.Frag) (f : PyData → Bool) : Sp := fun vs H Q _ => ∃ v d n, vs = [v] ∧ Dp K H v d ∧ fit d n = true ∧ ∀ H', Same H H' → Q (.bl (f d)) H'
theorem scaretriples : FnScope ["table", "seen", "triple"] ["table"] (defScope (topS 13)) := ⟨rfl, rfl, rfl, by decide +kernel, rfl, by decide +kernel, by decide +kernel⟩
theorem ok_are_triples (T : Top P K mg) : FnOk P w K mg base CX0 3 T.d_are_triples.f T.d_are_triples.fd ["table"] (spLook K dTriples) := by
  refine T.d_are_triples.F.ok scaretriples (fun vs H Q E h => ?_) (fun cdv A outer s H vs Q E hr h => ?_)
  · obtain ⟨v, d, n, rfl, _⟩ := h
    rfl
  · obtain ⟨v, d, n, rfl, hd, hf, q⟩ := h
    refine ⟨_, pss_cons (ps_if (pt_not (pt_val (pe_callB call_isi rfl T.z_isinstance (by decide +kernel) (pa_cons (pv 0) (pa_cons (pe_bltn (v := .ty "tuple") (by rfl) T.z_tuple boot_tuple rfl) pa_nil)))))
      (pss_one (ps_ret (pe_bl)))
      (pss_nil))
      (pss_cons (ps_set (i := 1) scaretriples.nd rfl (.inl rfl) (pe_lst (pa_nil)))
      (pss_cons (ps_for PassesOwn.never rfl (pi_tup (pv 0)) (pg_name (i := 2) scaretriples.nd rfl (.inl rfl))
      (pss_cons (ps_if (PW.pt (pw_or (pt_not (pt_val (pe_call (ok_has_size T) (hr.mono (by omega)) rfl T.d_has_size.g T.d_has_size.F.kp T.d_has_size.b .nil pass0 (pa_cons (pv 2) (pa_cons (pe_int) pa_nil))))) (pw_or (pt_not (pt_val (pe_call (ok_is_word T) (hr.mono (by omega)) rfl T.d_is_word.g T.d_is_word.F.kp T.d_is_word.b .nil pass0 (pa_cons (pe_ix ix_tup (pv 2) (pe_int) (fun _ _ => rfl)) pa_nil)))) (pw_or (pt_not (pt_val (pe_call (ok_is_word T) (hr.mono (by omega)) rfl T.d_is_word.g T.d_is_word.F.kp T.d_is_word.b .nil pass0 (pa_cons (pe_ix ix_tup (pv 2) (pe_int) (fun _ _ => rfl)) pa_nil)))) (pw_or1 (pt_not (pt_val (pe_call (ok_is_count T) (hr.mono (by omega)) rfl T.d_is_count.g T.d_is_count.F.kp T.d_is_count.b .nil pass0 (pa_cons (pe_ix ix_tup (pv 2) (pe_int) (fun _ _ => rfl)) pa_nil)))))))))
      (pss_one (ps_ret (pe_bl)))
      (pss_nil))
      (pss_cons (ps_if (PW.pt (pw_or (pt_cmpR op_eq (pe_ix ix_tup (pv 2) (pe_int) (fun _ _ => rfl)) (pe_ix ix_tup (pv 2) (pe_int) (fun _ _ => rfl)) (nomark _)) (pw_or1 (pt_cmpR (op_inD (hu65 hr)) (pe_slice sl_tupA (pv 2) (po_none) (po_some (pe_int))) (pv 1) (by rfl)))))
      (pss_one (ps_ret (pe_bl)))
      (pss_nil))
      (pss_one (ps_expr (pe_bm PySem.F.plainAttrs_list PySem.F.slot_list_append PySem.F.type_list_append mt_append (pv 1) (pa_cons (pe_slice sl_tupA (pv 2) (po_none) (po_some (pe_int))) pa_nil)))))))
      (pss_one (ps_ret (pe_bl))))), ?_⟩
    refine ⟨v, rfl, v, _, _, _, _, rfl, .ty "tuple", ty_dp hd, isi_tuple K d, _, rfl, ?_⟩
    cases d with
    | tuple ts =>
      obtain ⟨a, xs, rfl, hS, hA⟩ := dp_tup hd
      have hl := dpAll_len hA
      obtain ⟨m, rfl, hlt, hft⟩ := fit_tup hf
      refine ⟨Nat.zero_le _, fun sn nsn => ?_⟩
      have s0 : Same H (upd H sn (.lst [])) := same_new nsn
      refine ⟨_, rfl, a, rfl, ⟨xs, same_t s0 hS⟩, for_tup (K := K) (xs := xs) (fun i σ H' => ∃ (l : List (Str × Str)) (us : List V) (y : Option V), σ = [some (.ref a), some (.ref sn), y] ∧ Same H H' ∧ H' sn = some (.lst us) ∧ DpAll K H' us (l.map pairD) ∧
        (∀ z ∈ l, wordOk z.1 = true ∧ wordOk z.2 = true) ∧ l.length ≤ i ∧ trOk (l.map pairD) (ts.drop i) = trOk [] ts) ⟨[], [], none, rfl, s0, upd_same, .nil, (fun z hz => nomatch hz), Nat.le_refl _, rfl⟩ (fun i σ H' _ ⟨_, _, _, _, s1, _⟩ => same_t s1 hS) ?_ ?_⟩
      · rintro i x σ H1 hx ⟨l, us, y, rfl, s1, esn, hus, hok, hli, htr⟩
        obtain ⟨t, ht, hdx⟩ := dpAll_get (dps_same s1 hA) hx
        have hdrop : ts.drop i = t :: ts.drop (i + 1) := by
          obtain ⟨hi, e⟩ := List.getElem?_eq_some_iff.mp ht
          rw [← e]
          exact List.drop_eq_getElem_cons hi
        have hit : i < ts.length := (List.getElem?_eq_some_iff.mp ht).1
        have hfx := fitAll_at hft ht
        rw [hdrop] at htr
        have no : ∀ H', Same H1 H' → trOk (l.map pairD) (t :: ts.drop (i + 1)) = false → Q (.bl false) H' := fun H' s2 e => by
          have := q H' (s1.trans s2)
          rw [show dTriples (.tuple ts) = false from htr.symm.trans e] at this
          exact this
        refine ⟨x, rfl, x, t, 3, rfl, hdx, _, rfl, ?_⟩
        cases e3 : dSize 3 t with
        | false => exact no H1 (Same.refl _) (trOk_no3 e3 _ _)
        | true =>
          obtain ⟨da, db, dc, rfl⟩ := size3 e3
          obtain ⟨b, zs, rfl, hSx, hAx⟩ := dp_tup hdx
          obtain ⟨va, r1, rfl, hva, hA1⟩ := dpAll_cons hAx
          obtain ⟨vb, r2, rfl, hvb, hA2⟩ := dpAll_cons hA1
          obtain ⟨vc, r3, rfl, hvc, hA3⟩ := dpAll_cons hA2
          cases dpAll_nil hA3
          obtain ⟨m2, rfl, _, hf3⟩ := fit_tup hfx
          refine ⟨_, rfl, b, _, 0, va, rfl, rfl, hSx, atI_nat (j := 0) rfl, va, da, m2, rfl, hva, fitAll_at (i := 0) hf3 rfl, fun H2 s2 => ⟨_, rfl, ?_⟩⟩
          cases ea : dWord da with
          | false => exact no H2 s2 (by rw [trOk_3, ea]; rfl)
          | true =>
            refine ⟨_, rfl, b, _, 1, vb, rfl, rfl, same_t s2 hSx, atI_nat (j := 1) rfl, vb, db, m2, rfl, dp_same s2 hvb, fitAll_at (i := 1) hf3 rfl, fun H3 s3 => ⟨_, rfl, ?_⟩⟩
            cases eb : dWord db with
            | false => exact no H3 (s2.trans s3) (by rw [trOk_3, ea, eb]; rfl)
            | true =>
              have s23 := s2.trans s3
              refine ⟨_, rfl, b, _, 2, vc, rfl, rfl, same_t s23 hSx, atI_nat (j := 2) rfl, vc, dc, rfl, dp_same s23 hvc, _, rfl, ?_⟩
              cases ec : dCount dc with
              | false => exact no H3 s23 (by rw [trOk_3, ea, eb, ec]; rfl)
              | true =>
                obtain ⟨wa, rfl, oka⟩ := dWord_str ea
                obtain ⟨wb, rfl, okb⟩ := dWord_str eb
                cases dp_str hva
                cases dp_str hvb
                refine ⟨_, rfl, b, _, 0, _, rfl, rfl, same_t s23 hSx, atI_nat (j := 0) rfl, _, rfl, b, _, 1, _, rfl, rfl, same_t s23 hSx, atI_nat (j := 1) rfl, rfl, _, rfl, ?_⟩
                rw [← eqv_str]
                cases ee : PyData.eqv (.str wa) (.str wb) with
                | true => exact no H3 s23 (by rw [trOk_3, ea, eb, ec, ee]; rfl)
                | false =>
                  have s123 := s1.trans s23
                  have cut : cutV [V.str wa, V.str wb, vc] none (some 2) = [V.str wa, V.str wb] := cut_to _ 2
                  refine ⟨_, rfl, 2, rfl, b, _, rfl, same_t s23 hSx, fun z => absurd z (not_whole (n := 2) (by show 2 < 3; omega)), fun _ p np => ?_⟩
                  rw [cut]
                  have s4 : Same H3 (upd H3 p (.tup [V.str wa, V.str wb])) := same_new np
                  have s34 := s23.trans s4
                  have hp : Dp K (upd H3 p (.tup [V.str wa, V.str wb])) (.ref p) (pairD (wa, wb)) := .tup (.inl (.inl upd_same)) (.cons (.str _) (.cons (.str _) .nil))
                  refine ⟨_, rfl, pairD (wa, wb), l.map pairD, hp, .lst (.inl (.inl (s34 _ _ esn))) (dps_same s34 hus), pair_shaped oka okb, pairs_shaped hok, _, rfl, ?_⟩
                  cases ei : (l.map pairD).any fun z => PyData.eqv z (pairD (wa, wb)) with
                  | true => exact no _ s34 (by rw [trOk_3, ea, eb, ec, ee]; show (true && (true && (!((l.map pairD).any fun z => PyData.eqv z (pairD (wa, wb))) && _))) = false; rw [ei]; rfl)
                  | false =>
                    refine ⟨.ref sn, rfl, .inl ⟨rfl, _, .inl (.inl (s34 _ _ esn))⟩, .ref b, rfl, 2, rfl, b, _, rfl, same_t s34 hSx, fun z => absurd z (not_whole (n := 2) (by show 2 < 3; omega)), fun _ p2 np2 => ?_⟩
                    rw [cut]
                    have s5 : Same _ (upd (upd H3 p (.tup [V.str wa, V.str wb])) p2 (.tup [V.str wa, V.str wb])) := same_new np2
                    have s35 := s34.trans s5
                    refine ⟨sn, us, .ref p2, rfl, rfl, s35 _ _ esn, ?_, ?_⟩
                    · have := dpAll_len hus
                      rw [List.length_map] at this
                      exact sz_lt (by omega)
                    · have s6 : Same H (upd (upd (upd H3 p (.tup [V.str wa, V.str wb])) p2 (.tup [V.str wa, V.str wb])) sn (.lst (us ++ [.ref p2]))) := same_set (s1.trans s35) nsn
                      have hp2 : Dp K (upd (upd H3 p (.tup [V.str wa, V.str wb])) p2 (.tup [V.str wa, V.str wb])) (.ref p2) (pairD (wa, wb)) := .tup (.inl (.inl upd_same)) (.cons (.str _) (.cons (.str _) .nil))
                      have htr2 : trOk (l.map pairD ++ [pairD (wa, wb)]) (ts.drop (i + 1)) = trOk [] ts := by
                        rw [← htr, trOk_3, ea, eb, ec, ee]
                        show _ = (true && (true && (!((l.map pairD).any fun z => PyData.eqv z (pairD (wa, wb))) && _)))
                        rw [ei]
                        rfl
                      refine ⟨l ++ [(wa, wb)], us ++ [.ref p2], _, rfl, s6, upd_same, ?_, fun z hz => ?_, ?_, ?_⟩
                      · rw [List.map_append]
                        exact dps_set (s35 _ _ esn) (by rw [← List.map_singleton, ← List.map_append]; exact noLists_pairs _) (dpAll_app (dps_same s35 hus) (.cons hp2 .nil))
                      · rcases List.mem_append.mp hz with hz | hz
                        · exact hok z hz
                        · cases List.mem_singleton.mp hz
                          exact ⟨oka, okb⟩
                      · rw [List.length_append, List.length_singleton]
                        omega
                      · rw [List.map_append]
                        exact htr2
      · rintro σ H1 ⟨l, us, y, rfl, s1, _, _, _, _, htr⟩
        have e : trOk [] ts = true := by
          rw [← htr, hl, List.drop_length]
          rfl
        have := q H1 s1
        rw [show dTriples (.tuple ts) = true from e] at this
        exact this
    | _ => exact q H (Same.refl H)
end
end K14
set_option maxRecDepth 100000
set_option maxHeartbeats 4000000
namespace K14
open PySem PySem.Spec PyProof.Rows L2
theorem dPrices_4 (a b c t : PyData) : dPrices (.tuple [a, b, c, t]) = ((dCount a && (dCount b && dCount c)) && dTriples t) := rfl
theorem dPrices_no {t : PyData} (h : dSize 4 t = false) : dPrices t = false := by
  cases t with
  | tuple xs =>
    match xs, h with
    | [], _ => rfl
    | [_], _ => rfl
    | [_, _], _ => rfl
    | [_, _, _], _ => rfl
    | _ :: _ :: _ :: _ :: _ :: r, _ => rfl
    | [_, _, _, _], h => cases h
  | _ => rfl
theorem dForest_tup (xs : List PyData) : dForest (.tuple xs) = dTrees xs := by simp only [dForest]
theorem dTrees_cons (x : PyData) (xs : List PyData) : dTrees (x :: xs) = (dTree x && dTrees xs) := by simp only [dTrees]
theorem dTree_pair (a b : PyData) : dTree (.tuple [a, b]) = (dWord a && dForest b) := by simp only [dTree, dPair, dTail, List.isEmpty_nil, Bool.true_and]
theorem dTree_no {t : PyData} (h : dSize 2 t = false) : dTree t = false := by
  cases t with
  | tuple xs =>
    match xs, h with
    | [], _ => simp only [dTree, dPair]
    | [a], _ => simp only [dTree, dPair, dTail, Bool.and_false]
    | a :: b :: c :: r, _ => simp only [dTree, dPair, dTail, List.isEmpty_cons, Bool.false_and, Bool.and_false]
    | [_, _], h => cases h
  | _ => simp only [dTree]
/-! ### prices as data -/
def trD (t : Str × Str × Int) : PyData := .tuple [.str t.1, .str t.2.1, .int t.2.2]
def prD (d m c : Int) (T : List (Str × Str × Int)) : PyData := .tuple [.int d, .int m, .int c, .tuple (T.map trD)]
theorem chOf_next {c : Int} {t : Str × Str × Int} {r : List (Str × Str × Int)} {w o : Str} (h : w ≠ o) : chOf c (t :: r) w o = if t.1 = w ∧ t.2.1 = o then t.2.2 else chOf c r w o := if_neg h
theorem chOf_last {c : Int} {w o : Str} (h : w ≠ o) : chOf c [] w o = c := if_neg h
theorem dec_str {a b : Str} : decide (V.str a = V.str b) = decide (a = b) := by
  by_cases h : a = b
  · subst h
    simp
  · rw [decide_eq_false h, decide_eq_false fun z => h (V.str.inj z)]
section
variable {P : Program} {w : World} {K : PySem.W.Frag} {mg : Str → Option Value} {base : Heap}
theorem scisprices : FnScope ["value", "part"] ["value"] (defScope (topS 14)) := ⟨rfl, rfl, rfl, by decide +kernel, rfl, by decide +kernel, by decide +kernel⟩
theorem ok_is_prices (T : Top P K mg) : FnOk P w K mg base CX0 4 T.d_is_prices.f T.d_is_prices.fd ["value"] (spLook K dPrices) := by
  refine T.d_is_prices.F.ok scisprices (fun vs H Q E h => ?_) (fun cdv A outer s H vs Q E hr h => ?_)
  · obtain ⟨v, d, n, rfl, _⟩ := h
    rfl
  · obtain ⟨v, d, n, rfl, hd, hf, q⟩ := h
    have q' : ∀ b, dPrices d = b → ∀ H', Same H H' → Q (.bl b) H' := fun b e H' s => e ▸ q H' s
    refine ⟨_, pss_cons (ps_if (PW.pt (pw_or (pt_not (pt_val (pe_call (ok_has_size T) (hr.mono (by omega)) rfl T.d_has_size.g T.d_has_size.F.kp T.d_has_size.b .nil pass0 (pa_cons (pv 0) (pa_cons (pe_int) pa_nil))))) (pw_or1 (pt_not (pt_val (pe_callB (cr_all rfl) rfl T.z_all (by decide +kernel) (pa_cons (pe_lc (own := [("part", 1)]) (g := gName 1) (tt := tYes) rfl scisprices.nd (pi_tup (pe_slice sl_tupA (pv 0) (po_none) (po_some (pe_int)))) (blkOk_by (own := [("part", 1)]) (N := ["value", "part"]) (sc := defScope (topS 14)) (by decide +kernel)) (fun _ _ _ _ _ => pg_name (i := 1) scisprices.nd rfl (.inl rfl)) (fun _ _ _ _ _ => pts_nil) (fun _ _ _ _ _ => pe_call (ok_is_count T) (hr.mono (by omega)) rfl T.d_is_count.g T.d_is_count.F.kp T.d_is_count.b .nil pass0 (pa_cons (pv 1) pa_nil))) pa_nil)))))))
      (pss_one (ps_ret (pe_bl)))
      (pss_nil))
      (pss_one (ps_ret (pe_call (ok_are_triples T) (hr.mono (by omega)) rfl T.d_are_triples.g T.d_are_triples.F.kp T.d_are_triples.b .nil pass0 (pa_cons (pe_ix ix_tup (pv 0) (pe_int) (fun _ _ => rfl)) pa_nil)))), ?_⟩
    refine ⟨v, rfl, v, d, 4, rfl, hd, _, rfl, ?_⟩
    cases e4 : dSize 4 d with
    | false => exact q' false (dPrices_no e4) H (Same.refl H)
    | true =>
      obtain ⟨da, db, dc, dt, rfl⟩ := size4 e4
      obtain ⟨a, xs, rfl, hS, hA⟩ := dp_tup hd
      obtain ⟨va, r1, rfl, hva, hA1⟩ := dpAll_cons hA
      obtain ⟨vb, r2, rfl, hvb, hA2⟩ := dpAll_cons hA1
      obtain ⟨vc, r3, rfl, hvc, hA3⟩ := dpAll_cons hA2
      obtain ⟨vt, r4, rfl, hvt, hA4⟩ := dpAll_cons hA3
      cases dpAll_nil hA4
      obtain ⟨m, rfl, _, hf4⟩ := fit_tup hf
      refine ⟨_, rfl, 3, rfl, a, _, rfl, hS, fun z => absurd z (not_whole (n := 3) (by show 3 < 4; omega)), fun _ p np => ?_⟩
      have cut : cutV [va, vb, vc, vt] none (some 3) = [va, vb, vc] := cut_to _ 3
      rw [cut]
      have s1 : Same H (upd H p (.tup [va, vb, vc])) := same_new np
      have hp : SqT K (upd H p (.tup [va, vb, vc])) p [va, vb, vc] := .inl (.inl upd_same)
      refine ⟨p, rfl, ⟨_, hp⟩, fun D hD => ?_⟩
      generalize upd H p (.tup [va, vb, vc]) = H1 at s1 hp hD ⊢
      refine lc_it (walk_tup (K := K) (xs := [va, vb, vc])) (fun i H' => Same H1 H' ∧ H' D = some (.lst (([dCount da, dCount db, dCount dc].take i).map V.bl))) ⟨same_new hD, upd_same⟩ (fun i H' _ h => same_t h.1 hp) ?_ ?_
      · rintro i x H2 H3 hi ⟨s2, e2⟩ ⟨rfl, hx⟩
        refine ⟨rfl, ?_⟩
        have s12 := s1.trans s2
        match i, hi, hx with
        | 0, _, hx =>
          cases (Option.some.inj hx : va = x)
          exact ⟨va, rfl, va, da, rfl, dp_same s12 hva, _, e2, (by rw [List.length_map, List.length_take]; exact sz_lt (Nat.lt_of_le_of_lt (Nat.min_le_right _ _) (by show 3 < 100000; omega))), same_set s2 hD, upd_same⟩
        | 1, _, hx =>
          cases (Option.some.inj hx : vb = x)
          exact ⟨vb, rfl, vb, db, rfl, dp_same s12 hvb, _, e2, (by rw [List.length_map, List.length_take]; exact sz_lt (Nat.lt_of_le_of_lt (Nat.min_le_right _ _) (by show 3 < 100000; omega))), same_set s2 hD, upd_same⟩
        | 2, _, hx =>
          cases (Option.some.inj hx : vc = x)
          exact ⟨vc, rfl, vc, dc, rfl, dp_same s12 hvc, _, e2, (by rw [List.length_map, List.length_take]; exact sz_lt (Nat.lt_of_le_of_lt (Nat.min_le_right _ _) (by show 3 < 100000; omega))), same_set s2 hD, upd_same⟩
      · rintro H2 ⟨s2, e2⟩
        refine ⟨D, [dCount da, dCount db, dCount dc], rfl, .inl (.inl e2), _, rfl, ?_⟩
        have s12 := s1.trans s2
        show if (!(dCount da && (dCount db && (dCount dc && true)))) = true then _ else _
        rw [Bool.and_true]
        cases ea : (dCount da && (dCount db && dCount dc)) with
        | false => exact q' false (by rw [dPrices_4, ea]; rfl) H2 s12
        | true =>
          refine ⟨_, rfl, a, _, 3, vt, rfl, rfl, same_t s12 hS, atI_nat (j := 3) rfl, vt, dt, m, rfl, dp_same s12 hvt, fitAll_at (i := 3) hf4 rfl, fun H3 s3 => ?_⟩
          exact q' _ (by rw [dPrices_4, ea]; rfl) H3 (s12.trans s3)
theorem scneedprices : FnScope ["prices"] ["prices"] (defScope (topS 15)) := ⟨rfl, rfl, rfl, by decide +kernel, rfl, by decide +kernel, by decide +kernel⟩
/-- a look that raises the error of the class at C where f says no -/
def spNeed (K : PySem.W.Frag) (C : Addr) (f : PyData → Bool) : Sp := fun vs H Q E => ∃ v d n, vs = [v] ∧ Dp K H v d ∧ fit d n = true ∧ (f d = true → ∀ H', Same H H' → Q .non H') ∧
  (f d = false → ∀ H' e, Same H H' → H' e = some (.xd [(("value" : Str), v)]) → E (.ref C) (some e) H')
theorem ok_need_prices (T : Top P K mg) : FnOk P w K mg base (L2.CX P w) 5 T.d_need_prices.f T.d_need_prices.fd ["prices"] (spNeed K T.C2 dPrices) := by
  refine T.d_need_prices.F.okX scneedprices (fun vs H Q E h => ?_) (fun cdv A outer s H vs Q E hr h => ?_)
  · obtain ⟨v, d, n, rfl, _⟩ := h
    rfl
  · obtain ⟨v, d, n, rfl, hd, hf, q, x⟩ := h
    refine ⟨_, pss_one (ps_if (pt_not (pt_val (pe_call (ok_is_prices T) (hr.mono (by omega)) rfl T.d_is_prices.g T.d_is_prices.F.kp T.d_is_prices.b .nil pass0 (pa_cons (pv 0) pa_nil))))
      (pss_one (ps_raise rfl (takes_of rfl rfl rfl rfl) (pmk_inv T.x_InvalidPrices hr (pa_cons (pv 0) pa_nil) rfl)))
      (pss_nil)), ?_⟩
    refine ⟨v, rfl, v, d, n, rfl, hd, hf, fun H1 s1 => ⟨_, rfl, ?_⟩⟩
    cases e : dPrices d with
    | true => exact q e H1 s1
    | false => exact ⟨v, rfl, v, rfl, fun z nz => x e _ z (s1.trans (same_new nz)) upd_same⟩
theorem scpricebetween : FnScope ["prices", "word", "other", "first", "second", "price"] ["prices", "word", "other"] (defScope (topS 16)) := ⟨rfl, rfl, rfl, by decide +kernel, rfl, by decide +kernel, by decide +kernel⟩
def spPrice (K : PySem.W.Frag) : Sp := fun vs H Q _ => ∃ v d m c T wd ot, vs = [v, .str wd, .str ot] ∧ Dp K H v (prD d m c T) ∧ Q (.int (chOf c T wd ot)) H
theorem dp_prices {K : PySem.W.Frag} {H : Hp} {v : V} {d m c : Int} {T : List (Str × Str × Int)} (h : Dp K H v (prD d m c T)) : ∃ a t xs, v = .ref a ∧ SqT K H a [.int d, .int m, .int c, .ref t] ∧ SqT K H t xs ∧ DpAll K H xs (T.map trD) := by
  obtain ⟨a, xs, rfl, hS, hA⟩ := dp_tup h
  obtain ⟨va, r1, rfl, hva, hA1⟩ := dpAll_cons hA
  obtain ⟨vb, r2, rfl, hvb, hA2⟩ := dpAll_cons hA1
  obtain ⟨vc, r3, rfl, hvc, hA3⟩ := dpAll_cons hA2
  obtain ⟨vt, r4, rfl, hvt, hA4⟩ := dpAll_cons hA3
  cases dpAll_nil hA4
  cases dp_int hva
  cases dp_int hvb
  cases dp_int hvc
  obtain ⟨t, ys, rfl, hT, hB⟩ := dp_tup hvt
  exact ⟨a, t, ys, rfl, hS, hT, hB⟩
theorem dp_triple {K : PySem.W.Frag} {H : Hp} {v : V} {t : Str × Str × Int} (h : Dp K H v (trD t)) : ∃ a, v = .ref a ∧ SqT K H a [.str t.1, .str t.2.1, .int t.2.2] := by
  obtain ⟨a, xs, rfl, hS, hA⟩ := dp_tup h
  obtain ⟨va, r1, rfl, hva, hA1⟩ := dpAll_cons hA
  obtain ⟨vb, r2, rfl, hvb, hA2⟩ := dpAll_cons hA1
  obtain ⟨vc, r3, rfl, hvc, hA3⟩ := dpAll_cons hA2
  cases dpAll_nil hA3
  cases dp_str hva
  cases dp_str hvb
  cases dp_int hvc
  exact ⟨a, rfl, hS⟩
theorem drop_next {X : Type} {l : List X} {i : Nat} {x : X} (h : l[i]? = some x) : l.drop i = x :: l.drop (i + 1) := by
  obtain ⟨hi, e⟩ := List.getElem?_eq_some_iff.mp h
  rw [← e]
  exact List.drop_eq_getElem_cons hi
theorem ok_price_between (T : Top P K mg) : FnOk P w K mg base CX0 1 T.d_price_between.f T.d_price_between.fd ["prices", "word", "other"] (spPrice K) := by
  refine T.d_price_between.F.ok scpricebetween (fun vs H Q E h => ?_) (fun cdv A outer s H vs Q E hr h => ?_)
  · obtain ⟨v, d, m, c, T, wd, ot, rfl, _⟩ := h
    rfl
  · obtain ⟨v, d, m, c, Tb, wd, ot, rfl, hd, q⟩ := h
    refine ⟨_, pss_cons (ps_if (pt_cmpR op_eq (pv 1) (pv 2) (nomark _))
      (pss_one (ps_ret (pe_int)))
      (pss_nil))
      (pss_cons (ps_for PassesOwn.never rfl (pi_tup (pe_ix ix_tup (pv 0) (pe_int) (fun _ _ => rfl))) (pg_tup rfl (pgs_cons (pg_name (i := 3) scpricebetween.nd rfl (.inl rfl)) (pgs_cons (pg_name (i := 4) scpricebetween.nd rfl (.inl rfl)) (pgs_cons (pg_name (i := 5) scpricebetween.nd rfl (.inl rfl)) (pgs_nil)))))
      (pss_one (ps_if (PW.pt (pw_and (pt_cmpR op_eq (pv 3) (pv 1) (nomark _)) (pw_and1 (pt_cmpR op_eq (pv 4) (pv 2) (nomark _)))))
      (pss_one (ps_ret (pv 5)))
      (pss_nil))))
      (pss_one (ps_ret (pe_ix ix_tup (pv 0) (pe_int) (fun _ _ => rfl))))), ?_⟩
    refine ⟨_, rfl, _, rfl, rfl, _, rfl, ?_⟩
    rw [dec_str]
    by_cases h0 : wd = ot
    · subst h0
      rw [decide_eq_true rfl]
      rw [chOf_self] at q
      exact q
    · rw [decide_eq_false h0]
      obtain ⟨a, t, xs, rfl, hS, hT, hA⟩ := dp_prices hd
      have hl := dpAll_len hA
      rw [List.length_map] at hl
      refine ⟨_, rfl, a, _, 3, .ref t, rfl, rfl, hS, atI_nat (j := 3) rfl, t, rfl, ⟨xs, hT⟩, for_tup (K := K) (xs := xs) (fun i σ H' => ∃ y1 y2 y3, σ = [some (.ref a), some (.str wd), some (.str ot), y1, y2, y3] ∧ H' = H ∧ chOf c (Tb.drop i) wd ot = chOf c Tb wd ot)
        ⟨none, none, none, rfl, rfl, rfl⟩ (fun i σ H' _ ⟨_, _, _, _, e, _⟩ => e ▸ hT) ?_ ?_⟩
      · rintro i x σ H1 hx ⟨y1, y2, y3, rfl, rfl, hc⟩
        obtain ⟨z, hz, hdz⟩ := dpAll_get hA hx
        rw [List.getElem?_map] at hz
        obtain ⟨tr, htr, rfl⟩ : ∃ tr, Tb[i]? = some tr ∧ trD tr = z := by
          cases e : Tb[i]? with
          | none => rw [e] at hz; cases hz
          | some tr => rw [e] at hz; exact ⟨tr, rfl, Option.some.inj hz⟩
        obtain ⟨b, rfl, hB⟩ := dp_triple hdz
        rw [drop_next htr, chOf_next h0] at hc
        refine ⟨b, _, rfl, hB, rfl, _, _, rfl, _, _, rfl, _, _, rfl, rfl, ?_⟩
        refine ⟨_, rfl, _, rfl, rfl, _, rfl, ?_⟩
        rw [dec_str]
        by_cases h1 : tr.1 = wd
        · rw [decide_eq_true h1]
          refine ⟨_, rfl, _, rfl, rfl, _, rfl, ?_⟩
          rw [dec_str]
          by_cases h2 : tr.2.1 = ot
          · rw [decide_eq_true h2]
            rw [if_pos ⟨h1, h2⟩] at hc
            rw [← hc] at q
            exact ⟨_, rfl, q⟩
          · rw [decide_eq_false h2]
            rw [if_neg fun z => h2 z.2] at hc
            exact ⟨_, _, _, rfl, rfl, hc⟩
        · rw [decide_eq_false h1]
          rw [if_neg fun z => h1 z.1] at hc
          exact ⟨_, _, _, rfl, rfl, hc⟩
      · rintro σ H1 ⟨y1, y2, y3, rfl, rfl, hc⟩
        rw [hl, List.drop_length, chOf_last h0] at hc
        rw [← hc] at q
        exact ⟨_, rfl, a, _, 2, _, rfl, rfl, hS, atI_nat (j := 2) rfl, q⟩
/-! ### forests -/
theorem scisforestvalue : FnScope ["value", "tree"] ["value"] (defScope (topS 21)) := ⟨rfl, rfl, rfl, by decide +kernel, rfl, by decide +kernel, by decide +kernel⟩
def spForest (K : PySem.W.Frag) (n : Nat) : Sp := fun vs H Q _ => ∃ v d m, vs = [v] ∧ Dp K H v d ∧ m < n ∧ fit d m = true ∧ ∀ H', Same H H' → Q (.bl (dForest d)) H'
theorem ok_forest_n (T : Top P K mg) : ∀ n, FnOk P w K mg base CX0 (n + 1) T.d_is_forest_value.f T.d_is_forest_value.fd ["value"] (spForest K n)
  | 0 => by
    have no : ∀ vs H Q E, ¬ spForest K 0 vs H Q E := fun vs H Q E h => by
      obtain ⟨v, d, m, _, _, hm, _⟩ := h
      omega
    exact ⟨fun vs H Q E h => absurd h (no vs H Q E), fun A outer s H args us vs Q E _ _ _ _ h => absurd h (no vs H Q E)⟩
  | n + 1 => by
    have G : FnOk P w K mg base CX0 (n + 1) T.d_is_forest_value.f T.d_is_forest_value.fd ["value"] (spForest K n) := ok_forest_n T n
    refine T.d_is_forest_value.F.ok scisforestvalue (fun vs H Q E h => ?_) (fun cdv A outer s H vs Q E hr h => ?_)
    · obtain ⟨v, d, m, rfl, _⟩ := h
      rfl
    · obtain ⟨v, d, m, rfl, hd, hm, hf, q⟩ := h
      have q' : ∀ b, dForest d = b → ∀ H', Same H H' → Q (.bl b) H' := fun b e H' s => e ▸ q H' s
      have hr1 : Room (n + 1) _ := hr
      refine ⟨_, pss_cons (ps_if (pt_not (pt_val (pe_callB call_isi rfl T.z_isinstance (by decide +kernel) (pa_cons (pv 0) (pa_cons (pe_bltn (v := .ty "tuple") (by rfl) T.z_tuple boot_tuple rfl) pa_nil)))))
      (pss_one (ps_ret (pe_bl)))
      (pss_nil))
      (pss_cons (ps_for PassesOwn.never rfl (pi_tup (pv 0)) (pg_name (i := 1) scisforestvalue.nd rfl (.inl rfl))
      (pss_one (ps_if (PW.pt (pw_or (pt_not (pt_val (pe_call (ok_has_size T) (hr.mono (by omega)) rfl T.d_has_size.g T.d_has_size.F.kp T.d_has_size.b .nil pass0 (pa_cons (pv 1) (pa_cons (pe_int) pa_nil))))) (pw_or (pt_not (pt_val (pe_call (ok_is_word T) (hr.mono (by omega)) rfl T.d_is_word.g T.d_is_word.F.kp T.d_is_word.b .nil pass0 (pa_cons (pe_ix ix_tup (pv 1) (pe_int) (fun _ _ => rfl)) pa_nil)))) (pw_or1 (pt_not (pt_val (pe_call G (hr.mono (by omega)) rfl T.d_is_forest_value.g T.d_is_forest_value.F.kp T.d_is_forest_value.b .nil pass0 (pa_cons (pe_ix ix_tup (pv 1) (pe_int) (fun _ _ => rfl)) pa_nil))))))))
      (pss_one (ps_ret (pe_bl)))
      (pss_nil))))
      (pss_one (ps_ret (pe_bl)))), ?_⟩
      refine ⟨v, rfl, v, _, _, _, _, rfl, .ty "tuple", ty_dp hd, isi_tuple K d, _, rfl, ?_⟩
      cases d with
      | tuple ts =>
        obtain ⟨a, xs, rfl, hS, hA⟩ := dp_tup hd
        have hl := dpAll_len hA
        obtain ⟨m1, rfl, _, hft⟩ := fit_tup hf
        refine ⟨_, rfl, a, rfl, ⟨xs, hS⟩, for_tup (K := K) (xs := xs) (fun i σ H' => ∃ y, σ = [some (.ref a), y] ∧ Same H H' ∧ dTrees (ts.drop i) = dTrees ts) ⟨none, rfl, Same.refl H, rfl⟩ (fun i σ H' _ ⟨_, _, s1, _⟩ => same_t s1 hS) ?_ ?_⟩
        · rintro i x σ H1 hx ⟨y, rfl, s1, ht⟩
          obtain ⟨t, hti, hdx⟩ := dpAll_get (dps_same s1 hA) hx
          rw [drop_next hti, dTrees_cons] at ht
          have hfx := fitAll_at hft hti
          have no : dTree t = false → ∀ H', Same H1 H' → Q (.bl false) H' := fun e H' s2 => q' false (by rw [dForest_tup, ← ht, e]; rfl) H' (s1.trans s2)
          refine ⟨x, rfl, x, t, 2, rfl, hdx, _, rfl, ?_⟩
          cases e2 : dSize 2 t with
          | false => exact no (dTree_no e2) H1 (Same.refl _)
          | true =>
            obtain ⟨da, db, rfl⟩ := size2 e2
            obtain ⟨b, zs, rfl, hSx, hAx⟩ := dp_tup hdx
            obtain ⟨va, r1, rfl, hva, hA1⟩ := dpAll_cons hAx
            obtain ⟨vb, r2, rfl, hvb, hA2⟩ := dpAll_cons hA1
            cases dpAll_nil hA2
            obtain ⟨m2, rfl, _, hf2⟩ := fit_tup hfx
            refine ⟨_, rfl, b, _, 0, va, rfl, rfl, hSx, atI_nat (j := 0) rfl, va, da, m2, rfl, hva, fitAll_at (i := 0) hf2 rfl, fun H2 s2 => ⟨_, rfl, ?_⟩⟩
            cases ea : dWord da with
            | false => exact no (by rw [dTree_pair, ea]; rfl) H2 s2
            | true =>
              refine ⟨_, rfl, b, _, 1, vb, rfl, rfl, same_t s2 hSx, atI_nat (j := 1) rfl, vb, db, m2, rfl, dp_same s2 hvb, by omega, fitAll_at (i := 1) hf2 rfl, fun H3 s3 => ⟨_, rfl, ?_⟩⟩
              cases eb : dForest db with
              | false => exact no (by rw [dTree_pair, ea, eb]; rfl) H3 (s2.trans s3)
              | true =>
                refine ⟨_, rfl, s1.trans (s2.trans s3), ?_⟩
                rw [← ht, dTree_pair, ea, eb]
                rfl
        · rintro σ H1 ⟨y, rfl, s1, ht⟩
          rw [hl, List.drop_length] at ht
          exact q' true (by rw [dForest_tup, ← ht]; simp only [dTrees]) H1 s1
      | _ => exact q' false (by simp only [dForest]) H (Same.refl H)
end
end K14
set_option maxRecDepth 100000
set_option maxHeartbeats 4000000
namespace K14
open PySem PySem.Spec PyProof.Rows L2
/-! ### forests as data -/
namespace Fo
/-- the trees, from the left -/
def tl {W : Type} : Fo W → List (W × Fo W)
  | nil => []
  | snoc r w c => tl r ++ [(w, c)]
def ofL {W : Type} (l : List (W × Fo W)) : Fo W := l.foldl (fun a t => snoc a t.1 t.2) nil
theorem ofL_concat {W : Type} (l : List (W × Fo W)) (t : W × Fo W) : ofL (l ++ [t]) = snoc (ofL l) t.1 t.2 := by unfold ofL; rw [List.foldl_append]; rfl
theorem ofL_tl {W : Type} : ∀ F : Fo W, ofL (tl F) = F
  | nil => rfl
  | snoc r w c => by
    show ofL (tl r ++ [(w, c)]) = _
    rw [ofL_concat, ofL_tl r]
theorem tl_size {W : Type} : ∀ (F : Fo W) (t : W × Fo W), t ∈ tl F → t.2.size < F.size
  | nil, t, h => by cases h
  | snoc r w c, t, h => by
    rw [size_snoc]
    rcases List.mem_append.mp h with h | h
    · have := tl_size r t h
      omega
    · cases List.mem_singleton.mp h
      show c.size < _
      omega
theorem tl_len {W : Type} : ∀ F : Fo W, (tl F).length ≤ F.size
  | nil => Nat.le_refl _
  | snoc r w c => by
    show (tl r ++ [(w, c)]).length ≤ _
    rw [List.length_append, size_snoc]
    have := tl_len r
    have : ([(w, c)] : List (W × Fo W)).length = 1 := rfl
    omega
end Fo
open Fo
def encL : Fo Str → List PyData
  | .nil => []
  | .snoc r w c => encL r ++ [.tuple [.str w, .tuple (encL c)]]
def enc (F : Fo Str) : PyData := .tuple (encL F)
theorem encL_tl : ∀ F : Fo Str, encL F = (tl F).map fun t => .tuple [.str t.1, enc t.2]
  | .nil => rfl
  | .snoc r w c => by
    show encL r ++ _ = (tl r ++ [(w, c)]).map _
    rw [List.map_append, encL_tl r]
    rfl
theorem noLists_app : ∀ a b : List PyData, noLists (a ++ b) = (noLists a && noLists b)
  | [], b => by simp [noLists]
  | x :: a, b => by simp only [List.cons_append, noLists, noLists_app a b, Bool.and_assoc]
theorem noLists_enc : ∀ F : Fo Str, noLists (encL F) = true
  | .nil => by simp only [encL, noLists]
  | .snoc r w c => by
    rw [encL, noLists_app, noLists_enc r]
    simp only [noLists, noList, noLists_enc c, Bool.and_true]
theorem noList_enc (F : Fo Str) : noList (enc F) = true := by
  unfold enc
  simp only [noList]
  exact noLists_enc F
/-! ### what but lists stays -/
def tupO : HO → Prop
  | .tup _ => True
  | .frz _ _ => True
  | _ => False
def SameT (H H' : Hp) : Prop := ∀ b o, H b = some o → tupO o → H' b = some o
theorem Same.sameT {H H' : Hp} (s : Same H H') : SameT H H' := fun b o h _ => s b o h
theorem sameT_of {H H' : Hp} (s : Same H H') : SameT H H' := fun b o h _ => s b o h
theorem SameT.trans {H H1 H2 : Hp} (a : SameT H H1) (b : SameT H1 H2) : SameT H H2 := fun c o h n => b c o (a c o h n) n
theorem ne_tup {H : Hp} {a b : Addr} {o u : HO} (h : H a = some o) (n : tupO o) (h' : H b = some u) (m : ¬ tupO u) : a ≠ b := ne_of h h' fun e => m (e ▸ n)
theorem sameT_set {H : Hp} {sn : Addr} {z o : HO} (hs : H sn = some z) (m : ¬ tupO z) : SameT H (upd H sn o) := fun b u h n => by
  rw [upd_ne (ne_tup h n hs m)]
  exact h
theorem sqT_sameT {K : PySem.W.Frag} {H H' : Hp} {a : Addr} {xs : List V} (s : SameT H H') (h : SqT K H a xs) : SqT K H' a xs := by
  rcases h with (h | ⟨ob, h⟩) | h
  · exact .inl (.inl (s _ _ h trivial))
  · exact .inl (.inr ⟨ob, s _ _ h trivial⟩)
  · exact .inr h
mutual
theorem dp_sameT {K : PySem.W.Frag} {H H' : Hp} (s : SameT H H') : ∀ {v : V} {d : PyData}, noList d = true → Dp K H v d → Dp K H' v d
  | _, _, _, .non => .non
  | _, _, _, .bl b => .bl b
  | _, _, _, .int i => .int i
  | _, _, _, .str x => .str x
  | _, _, h, .lst _ _ => by simp [noList] at h
  | _, _, h, .tup q a => .tup (sqT_sameT s q) (dps_sameT s (by simpa only [noList] using h) a)
theorem dps_sameT {K : PySem.W.Frag} {H H' : Hp} (s : SameT H H') : ∀ {vs : List V} {ds : List PyData}, noLists ds = true → DpAll K H vs ds → DpAll K H' vs ds
  | _, _, _, .nil => .nil
  | _, _, h, .cons q t => .cons (dp_sameT s (by simp only [noLists, Bool.and_eq_true] at h; exact h.1) q) (dps_sameT s (by simp only [noLists, Bool.and_eq_true] at h; exact h.2) t)
end
/-- all but the two lists -/
def But2 (a b : Addr) (H H' : Hp) : Prop := ∀ c o, H c = some o → c ≠ a → c ≠ b → H' c = some o
theorem But2.trans {a b : Addr} {H H1 H2 : Hp} (x : But2 a b H H1) (y : But2 a b H1 H2) : But2 a b H H2 := fun c o h p q => y c o (x c o h p q) p q
theorem but2_left {a b : Addr} {H : Hp} {o : HO} : But2 a b H (upd H a o) := fun c u h p _ => by rw [upd_ne p]; exact h
theorem but2_right {a b : Addr} {H : Hp} {o : HO} : But2 a b H (upd H b o) := fun c u h _ p => by rw [upd_ne p]; exact h
theorem But2.sameT {a b : Addr} {H H' : Hp} {xs ys : List V} (x : But2 a b H H') (ha : H a = some (.lst xs)) (hb : H b = some (.lst ys)) : SameT H H' := fun c o h n =>
  x c o h (ne_tup h n ha id) (ne_tup h n hb id)
def isV (l : List Int) : List V := l.map V.int
def ssV (l : List Str) : List V := l.map V.str
theorem isV_len (l : List Int) : (isV l).length = l.length := List.length_map _
theorem ssV_len (l : List Str) : (ssV l).length = l.length := List.length_map _
theorem isV_app (a b : List Int) : isV (a ++ b) = isV a ++ isV b := List.map_append
theorem ssV_app (a b : List Str) : ssV (a ++ b) = ssV a ++ ssV b := List.map_append
theorem isV_at {l : List Int} {i : Nat} (h : i < l.length) : (isV l)[i]? = some (.int (gI l i)) := by
  unfold isV
  rw [List.getElem?_map, gI_get h]
  rfl
section
variable {P : Program} {w : World} {K : PySem.W.Frag} {mg : Str → Option Value} {base : Heap}
/-! ### need_forest, need_forests -/
theorem ok_is_forest_value (T : Top P K mg) : FnOk P w K mg base CX0 41 T.d_is_forest_value.f T.d_is_forest_value.fd ["value"] (spForest K 40) := ok_forest_n T 40
theorem scneedforest : FnScope ["a"] ["a"] (defScope (topS 22)) := ⟨rfl, rfl, rfl, by decide +kernel, rfl, by decide +kernel, by decide +kernel⟩
def spNeedF (K : PySem.W.Frag) (C : Addr) : Sp := fun vs H Q E => ∃ v d m, vs = [v] ∧ Dp K H v d ∧ m < 40 ∧ fit d m = true ∧ (dForest d = true → ∀ H', Same H H' → Q .non H') ∧
  (dForest d = false → ∀ H' e, Same H H' → H' e = some (.xd [(("value" : Str), v)]) → E (.ref C) (some e) H')
theorem ok_need_forest (T : Top P K mg) : FnOk P w K mg base (L2.CX P w) 42 T.d_need_forest.f T.d_need_forest.fd ["a"] (spNeedF K T.C1) := by
  refine T.d_need_forest.F.okX scneedforest (fun vs H Q E h => ?_) (fun cdv A outer s H vs Q E hr h => ?_)
  · obtain ⟨v, d, n, rfl, _⟩ := h
    rfl
  · obtain ⟨v, d, m, rfl, hd, hm, hf, q, x⟩ := h
    refine ⟨_, pss_one (ps_if (pt_not (pt_val (pe_call (ok_is_forest_value T) (hr.mono (by omega)) rfl T.d_is_forest_value.g T.d_is_forest_value.F.kp T.d_is_forest_value.b .nil pass0 (pa_cons (pv 0) pa_nil))))
      (pss_one (ps_raise rfl (takes_of rfl rfl rfl rfl) (pmk_inv T.x_InvalidForest hr (pa_cons (pv 0) pa_nil) rfl)))
      (pss_nil)), ?_⟩
    refine ⟨v, rfl, v, d, m, rfl, hd, hm, hf, fun H1 s1 => ⟨_, rfl, ?_⟩⟩
    cases e : dForest d with
    | true => exact q e H1 s1
    | false => exact ⟨v, rfl, v, rfl, fun z nz => x e _ z (s1.trans (same_new nz)) upd_same⟩
theorem scneedforests : FnScope ["a", "b"] ["a", "b"] (defScope (topS 23)) := ⟨rfl, rfl, rfl, by decide +kernel, rfl, by decide +kernel, by decide +kernel⟩
def spNeed2 (K : PySem.W.Frag) (C : Addr) : Sp := fun vs H Q E => ∃ v d m u e n, vs = [v, u] ∧ Dp K H v d ∧ m < 40 ∧ fit d m = true ∧ Dp K H u e ∧ n < 40 ∧ fit e n = true ∧ (dForest d = true → dForest e = true → ∀ H', Same H H' → Q .non H') ∧
  (dForest d = false → ∀ H' z, Same H H' → H' z = some (.xd [(("value" : Str), v)]) → E (.ref C) (some z) H') ∧
  (dForest d = true → dForest e = false → ∀ H' z, Same H H' → H' z = some (.xd [(("value" : Str), u)]) → E (.ref C) (some z) H')
theorem ok_need_forests (T : Top P K mg) : FnOk P w K mg base (L2.CX P w) 43 T.d_need_forests.f T.d_need_forests.fd ["a", "b"] (spNeed2 K T.C1) := by
  refine T.d_need_forests.F.okX scneedforests (fun vs H Q E h => ?_) (fun cdv A outer s H vs Q E hr h => ?_)
  · obtain ⟨v, d, m, u, e, n, rfl, _⟩ := h
    rfl
  · obtain ⟨v, d, m, u, e, n, rfl, hd, hm, hf, he, hn, hg, q, x, y⟩ := h
    refine ⟨_, pss_cons (ps_expr (pe_call (ok_need_forest T) (hr.mono (by omega)) rfl T.d_need_forest.g T.d_need_forest.F.kp T.d_need_forest.b .nil (passes_call (takes_of rfl rfl rfl rfl) (fun _ _ _ _ h => h)) (pa_cons (pv 0) pa_nil)))
      (pss_one (ps_expr (pe_call (ok_need_forest T) (hr.mono (by omega)) rfl T.d_need_forest.g T.d_need_forest.F.kp T.d_need_forest.b .nil (passes_call (takes_of rfl rfl rfl rfl) (fun _ _ _ _ h => h)) (pa_cons (pv 1) pa_nil)))), ?_⟩
    refine ⟨v, rfl, v, d, m, rfl, hd, hm, hf, fun ed H1 s1 => ?_, x⟩
    exact ⟨u, rfl, u, e, n, rfl, dp_same s1 he, hn, hg, fun ee H2 s2 => q ed ee H2 (s1.trans s2), fun ee H2 z s2 hz => y ed ee H2 z (s1.trans s2) hz⟩
/-! ### a forest's nodes listed -/
theorem scputnodes : FnScope ["a", "parent", "words", "parents", "word", "children", "place"] ["a", "parent", "words", "parents"] (defScope (topS 24)) := ⟨rfl, rfl, rfl, by decide +kernel, rfl, by decide +kernel, by decide +kernel⟩
def spPut (K : PySem.W.Frag) (n : Nat) : Sp := fun vs H Q _ => ∃ v F p lw lp ws ps, vs = [v, .int p, .ref lw, .ref lp] ∧ Dp K H v (enc F) ∧ F.size < n ∧ lw ≠ lp ∧ H lw = some (.lst (ssV ws)) ∧ H lp = some (.lst (isV ps)) ∧ ws.length = ps.length ∧ ws.length + F.size ≤ 1000 ∧
  ∀ H', But2 lw lp H H' → H' lw = some (.lst (ssV (ws ++ prw F))) → H' lp = some (.lst (isV (ps ++ prw (parF p ws.length F)))) → Q .non H'
theorem ok_put_n (T : Top P K mg) : ∀ n, FnOk P w K mg base CX0 n T.d_put_nodes.f T.d_put_nodes.fd ["a", "parent", "words", "parents"] (spPut K n)
  | 0 => by
    have no : ∀ vs H Q E, ¬ spPut K 0 vs H Q E := fun vs H Q E h => by
      obtain ⟨v, F, p, lw, lp, ws, ps, _, _, hm, _⟩ := h
      omega
    exact ⟨fun vs H Q E h => absurd h (no vs H Q E), fun A outer s H args us vs Q E _ _ _ _ h => absurd h (no vs H Q E)⟩
  | n + 1 => by
    have G : FnOk P w K mg base CX0 n T.d_put_nodes.f T.d_put_nodes.fd ["a", "parent", "words", "parents"] (spPut K n) := ok_put_n T n
    refine T.d_put_nodes.F.ok scputnodes (fun vs H Q E h => ?_) (fun cdv A outer s H vs Q E hr h => ?_)
    · obtain ⟨v, F, p, lw, lp, ws, ps, rfl, _⟩ := h
      rfl
    · obtain ⟨v, F, p, lw, lp, ws, ps, rfl, hd, hF, nwp, hw, hp, hwp, hz, q⟩ := h
      refine ⟨_, pss_one (ps_for PassesOwn.never rfl (pi_tup (pv 0)) (pg_tup rfl (pgs_cons (pg_name (i := 4) scputnodes.nd rfl (.inl rfl)) (pgs_cons (pg_name (i := 5) scputnodes.nd rfl (.inl rfl)) (pgs_nil))))
      (pss_cons (ps_set (i := 6) scputnodes.nd rfl (.inl rfl) (pe_callB call_len_seq rfl T.z_len PySem.boot_len (pa_cons (pv 2) pa_nil)))
      (pss_cons (ps_expr (pe_bm PySem.F.plainAttrs_list PySem.F.slot_list_append PySem.F.type_list_append mt_append (pv 2) (pa_cons (pv 4) pa_nil)))
      (pss_cons (ps_expr (pe_bm PySem.F.plainAttrs_list PySem.F.slot_list_append PySem.F.type_list_append mt_append (pv 3) (pa_cons (pv 1) pa_nil)))
      (pss_one (ps_expr (pe_call G (hr.mono (by omega)) rfl T.d_put_nodes.g T.d_put_nodes.F.kp T.d_put_nodes.b .nil pass0 (pa_cons (pv 5) (pa_cons (pv 6) (pa_cons (pv 2) (pa_cons (pv 3) pa_nil))))))))))), ?_⟩
      obtain ⟨a, xs, rfl, hS, hA⟩ := dp_tup hd
      rw [encL_tl] at hA
      have hl := dpAll_len hA
      rw [List.length_map] at hl
      have hst : ∀ H', But2 lw lp H H' → SameT H H' := fun H' b => b.sameT hw hp
      refine ⟨_, rfl, a, rfl, ⟨xs, hS⟩, for_tup (K := K) (xs := xs) (fun i σ H' => ∃ y1 y2 y3, σ = [some (.ref a), some (.int p), some (.ref lw), some (.ref lp), y1, y2, y3] ∧ But2 lw lp H H' ∧ H' lw = some (.lst (ssV (ws ++ prw (ofL ((tl F).take i))))) ∧
        H' lp = some (.lst (isV (ps ++ prw (parF p ws.length (ofL ((tl F).take i)))))) ∧ (ofL ((tl F).take i)).size ≤ F.size) ⟨none, none, none, rfl, fun c o h _ _ => h, by rw [List.take_zero]; show H lw = some (.lst (ssV (ws ++ []))); rw [List.append_nil]; exact hw, by rw [List.take_zero]; show H lp = some (.lst (isV (ps ++ []))); rw [List.append_nil]; exact hp, Nat.zero_le _⟩
        (fun i σ H' _ ⟨_, _, _, _, s1, _⟩ => sqT_sameT (hst _ s1) hS) ?_ ?_⟩
      · rintro i x σ H1 hx ⟨y1, y2, y3, rfl, s1, ew, ep, hsz⟩
        obtain ⟨d, hdi, hdx⟩ := dpAll_get hA hx
        rw [List.getElem?_map] at hdi
        obtain ⟨t, ht, rfl⟩ : ∃ t, (tl F)[i]? = some t ∧ PyData.tuple [.str t.1, enc t.2] = d := by
          cases e : (tl F)[i]? with
          | none => rw [e] at hdi; cases hdi
          | some t => rw [e] at hdi; exact ⟨t, rfl, Option.some.inj hdi⟩
        obtain ⟨b, zs, rfl, hSx, hAx⟩ := dp_tup hdx
        obtain ⟨va, r1, rfl, hva, hA1⟩ := dpAll_cons hAx
        obtain ⟨vb, r2, rfl, hvb, hA2⟩ := dpAll_cons hA1
        cases dpAll_nil hA2
        cases dp_str hva
        have htm := tl_size F t (List.mem_of_getElem? ht)
        have hpre : (ofL ((tl F).take i)).size + t.2.size + 1 ≤ F.size := by
          have e : ofL (tl F) = F := ofL_tl F
          have e2 : tl F = (tl F).take i ++ t :: (tl F).drop (i + 1) := by
            rw [← drop_next ht, List.take_append_drop]
          have mono : ∀ (l : List (Str × Fo Str)) (A : Fo Str), A.size ≤ (l.foldl (fun a t => Fo.snoc a t.1 t.2) A).size := fun l => by
            induction l with
            | nil => exact fun A => Nat.le_refl _
            | cons t r ih => exact fun A => Nat.le_trans (by rw [size_snoc]; omega) (ih _)
          have e3 : F = (((tl F).drop (i + 1)).foldl (fun a t => Fo.snoc a t.1 t.2) (Fo.snoc (ofL ((tl F).take i)) t.1 t.2)) := by
            conv => lhs; rw [← e, e2]
            unfold ofL
            rw [List.foldl_append, List.foldl_cons]
          have := mono ((tl F).drop (i + 1)) (Fo.snoc (ofL ((tl F).take i)) t.1 t.2)
          rw [← e3, size_snoc] at this
          omega
        refine ⟨b, _, rfl, sqT_sameT (hst _ s1) hSx, rfl, _, _, rfl, _, _, rfl, rfl, ?_⟩
        have lenW : (ssV (ws ++ prw (ofL ((tl F).take i)))).length = ws.length + (ofL ((tl F).take i)).size := by rw [ssV_len, List.length_append, prw_len]
        have lenP : (isV (ps ++ prw (parF p ws.length (ofL ((tl F).take i))))).length = ws.length + (ofL ((tl F).take i)).size := by rw [isV_len, List.length_append, prw_len, parF_size, hwp]
        -- place = len(words)
        refine ⟨_, rfl, lw, _, rfl, .inl (.inl (.inl ew)), ?_⟩
        -- words.append(word)
        refine ⟨_, rfl, .inl ⟨rfl, _, .inl (.inl ew)⟩, _, rfl, lw, _, _, rfl, rfl, ew, by rw [lenW]; exact sz_lt (by omega), ?_⟩
        have e1 : (upd H1 lw (.lst (ssV (ws ++ prw (ofL ((tl F).take i))) ++ [V.str t.1]))) lp = some (.lst (isV (ps ++ prw (parF p ws.length (ofL ((tl F).take i)))))) := by
          rw [upd_ne (Ne.symm nwp)]
          exact ep
        -- parents.append(parent)
        refine ⟨_, rfl, .inl ⟨rfl, _, .inl (.inl e1)⟩, _, rfl, lp, _, _, rfl, rfl, e1, by rw [lenP]; exact sz_lt (by omega), ?_⟩
        have s2 : But2 lw lp H1 (upd (upd H1 lw (.lst (ssV (ws ++ prw (ofL ((tl F).take i))) ++ [V.str t.1]))) lp (.lst (isV (ps ++ prw (parF p ws.length (ofL ((tl F).take i)))) ++ [V.int p]))) := but2_left.trans but2_right
        have e2 : (upd (upd H1 lw (.lst (ssV (ws ++ prw (ofL ((tl F).take i))) ++ [V.str t.1]))) lp (.lst (isV (ps ++ prw (parF p ws.length (ofL ((tl F).take i)))) ++ [V.int p]))) lw = some (.lst (ssV (ws ++ prw (ofL ((tl F).take i))) ++ [V.str t.1])) := by
          rw [upd_ne nwp, upd_same]
        have eP2 : (upd (upd H1 lw (.lst (ssV (ws ++ prw (ofL ((tl F).take i))) ++ [V.str t.1]))) lp (.lst (isV (ps ++ prw (parF p ws.length (ofL ((tl F).take i)))) ++ [V.int p]))) lp = some (.lst (isV (ps ++ prw (parF p ws.length (ofL ((tl F).take i)))) ++ [V.int p])) := upd_same
        generalize upd (upd H1 lw (.lst (ssV (ws ++ prw (ofL ((tl F).take i))) ++ [V.str t.1]))) lp (.lst (isV (ps ++ prw (parF p ws.length (ofL ((tl F).take i)))) ++ [V.int p])) = H2 at s2 e2 eP2
        have hc2 : Dp K H2 vb (enc t.2) := dp_sameT ((hst _ s1).trans (s2.sameT ew ep)) (noList_enc _) hvb
        have hp2 : H2 lp = some (.lst (isV (ps ++ prw (parF p ws.length (ofL ((tl F).take i)))) ++ [V.int p])) := eP2
        refine ⟨_, rfl, _, rfl, _, rfl, _, rfl, vb, t.2, _, lw, lp, ws ++ prw (ofL ((tl F).take i)) ++ [t.1], ps ++ prw (parF p ws.length (ofL ((tl F).take i))) ++ [p], rfl, hc2, by omega, nwp, by rw [e2, ssV_app _ [t.1]]; rfl, by rw [hp2, isV_app _ [p]]; rfl, by simp [prw_len, parF_size, hwp], by simp [prw_len]; omega, fun H3 s3 f1 f2 => ?_⟩
        have et : ofL ((tl F).take (i + 1)) = Fo.snoc (ofL ((tl F).take i)) t.1 t.2 := by rw [take_next ht, ofL_concat]
        refine ⟨_, _, _, rfl, (s1.trans s2).trans s3, ?_, ?_, ?_⟩
        · rw [f1, et]
          show _ = some (HO.lst (ssV (ws ++ (prw (ofL ((tl F).take i)) ++ t.1 :: prw t.2))))
          simp only [List.append_assoc, List.cons_append, List.nil_append]
        · rw [f2, et]
          have z1 : (ws ++ prw (ofL ((tl F).take i)) ++ [t.1]).length = ws.length + (ofL ((tl F).take i)).size + 1 := by simp [prw_len]; omega
          rw [z1, lenW]
          show _ = some (HO.lst (isV (ps ++ (prw (parF p ws.length (ofL ((tl F).take i))) ++ p :: prw (parF ((ws.length + (ofL ((tl F).take i)).size : Nat) : Int) (ws.length + (ofL ((tl F).take i)).size + 1) t.2)))))
          simp only [List.append_assoc, List.cons_append, List.nil_append]
        · rw [et, size_snoc]
          omega
      · rintro σ H1 ⟨y1, y2, y3, rfl, s1, ew, ep, _⟩
        rw [hl, List.take_length, ofL_tl] at ew ep
        exact q H1 s1 ew ep
end
end K14
set_option maxRecDepth 100000
set_option maxHeartbeats 4000000
namespace K14
open PySem PySem.Spec PyProof.Rows L2
open Fo
/-! ### parents stand ahead -/
def ParOk (ps : List Int) : Prop := ∀ k, k < ps.length → gI ps k < k
theorem gI_left {A B : List Int} {i : Nat} (h : i < A.length) : gI (A ++ B) i = gI A i := by
  unfold gI
  simp [List.getElem?_append, h]
theorem gI_right {A B : List Int} {i j : Nat} (h : A.length + j = i) : gI (A ++ B) i = gI B j := by
  subst h
  unfold gI
  rw [List.getD_eq_getElem?_getD, List.getD_eq_getElem?_getD, List.getElem?_append_right (Nat.le_add_right _ _), Nat.add_sub_cancel_left]
theorem par_lt {W : Type} : ∀ (F : Fo W) (p : Int) (q : Nat), p < q → ∀ i, i < F.size → gI (prw (parF p q F)) i < q + i
  | .nil, _, _, _, i, h => by rw [size_nil] at h; omega
  | .snoc r w c, p, q, hp, i, h => by
    rw [size_snoc] at h
    have lr : (prw (parF p q r)).length = r.size := by rw [prw_len, parF_size]
    show gI (prw (parF p q r) ++ p :: prw (parF ((q + r.size : Nat) : Int) (q + r.size + 1) c)) i < q + i
    by_cases h1 : i < r.size
    · rw [gI_left (by omega)]
      exact par_lt r p q hp i h1
    · by_cases h2 : i = r.size
      · rw [gI_app _ _ _ (by omega)]
        omega
      · rw [gI_right (j := i - r.size) (by omega)]
        obtain ⟨j, hj⟩ : ∃ j, i - r.size = j + 1 := ⟨i - r.size - 1, by omega⟩
        rw [hj]
        have := par_lt c ((q + r.size : Nat) : Int) (q + r.size + 1) (by omega) j (by omega)
        show gI (prw (parF _ _ c)) j < _
        omega
theorem parOk (F : Fo Str) : ParOk (prw (parF (-1) 0 F)) := fun k h => by
  rw [prw_len, parF_size] at h
  have := par_lt F (-1) 0 (by omega) k h
  omega
theorem szStep_len (ps : List Int) (k : Nat) (S : List Int) : (szStep ps k S).length = S.length := by unfold szStep; split <;> simp
theorem szFold_len (ps : List Int) : ∀ (l : List Nat) (S : List Int), (l.foldr (szStep ps) S).length = S.length
  | [], _ => rfl
  | k :: r, S => by
    rw [List.foldr_cons, szStep_len, szFold_len ps r S]
theorem sizesOf_len (ps : List Int) : (sizesOf ps).length = ps.length := by unfold sizesOf; rw [szFold_len, List.length_replicate]
theorem levelsOf_len (ps : List Int) : (levelsOf ps).length = ps.length := by
  have h : ∀ (l L : List Int), (l.foldl (fun L p => L ++ [lvNext L p]) L).length = L.length + l.length := fun l => by
    induction l with
    | nil => exact fun L => rfl
    | cons p r ih =>
      intro L
      rw [List.foldl_cons, ih, List.length_append]
      show L.length + 1 + r.length = L.length + (r.length + 1)
      omega
  have := h ps []
  unfold levelsOf
  rw [this]
  simp
theorem range_back (n i : Nat) (h : i < n) : List.range' (n - (i + 1)) (i + 1) = (n - 1 - i) :: List.range' (n - i) i := by
  rw [List.range'_succ]
  congr 1
  · omega
  · congr 1
    omega
theorem ixN_nat {n : Nat} {z : Int} {j : Nat} (e : z = (j : Int)) (h : j < n) : ixN n z = some j := by
  subst e
  unfold ixN
  rw [if_pos (by omega), if_pos (by omega), Int.toNat_natCast]
theorem atV {l : List Int} {z : Int} {j : Nat} (e : z = (j : Int)) (h : j < l.length) : atI (isV l) z = some (.int (gI l j)) := at_of e (isV_at h)
theorem isV_set (l : List Int) (j : Nat) (z : Int) : (isV l).set j (.int z) = isV (l.set j z) := by
  unfold isV
  rw [List.map_set]
theorem rep_map {X : Type} (n : Nat) (x : X) (i : Nat) (h : i ≤ n) : (List.replicate n x).take i = List.replicate i x := by
  rw [List.take_replicate, Nat.min_eq_left h]
theorem rep_next {X : Type} (n : Nat) (x : X) : List.replicate n x ++ [x] = List.replicate (n + 1) x := by
  rw [List.replicate_succ']
section
variable {P : Program} {w : World} {K : PySem.W.Frag} {mg : Str → Option Value} {base : Heap}
theorem sclisted : FnScope ["a", "words", "parents"] ["a"] (defScope (topS 25)) := ⟨rfl, rfl, rfl, by decide +kernel, rfl, by decide +kernel, by decide +kernel⟩
/-- the lists of a forest's words and parents, and the pair of both -/
def spListed (K : PySem.W.Frag) : Sp := fun vs H Q _ => ∃ v F, vs = [v] ∧ Dp K H v (enc F) ∧ F.size < 20 ∧ ∀ H' t lw lp, Same H H' → H' t = some (.tup [.ref lw, .ref lp]) → H' lw = some (.lst (ssV (prw F))) → H' lp = some (.lst (isV (prw (parF (-1) 0 F)))) → Q (.ref t) H'
theorem ok_put_nodes (T : Top P K mg) : FnOk P w K mg base CX0 20 T.d_put_nodes.f T.d_put_nodes.fd ["a", "parent", "words", "parents"] (spPut K 20) := ok_put_n T 20
theorem ok_listed (T : Top P K mg) : FnOk P w K mg base CX0 21 T.d_listed.f T.d_listed.fd ["a"] (spListed K) := by
  refine T.d_listed.F.ok sclisted (fun vs H Q E h => ?_) (fun cdv A outer s H vs Q E hr h => ?_)
  · obtain ⟨v, F, rfl, _⟩ := h
    rfl
  · obtain ⟨v, F, rfl, hd, hF, q⟩ := h
    refine ⟨_, pss_cons (ps_set (i := 1) sclisted.nd rfl (.inl rfl) (pe_lst (pa_nil)))
      (pss_cons (ps_set (i := 2) sclisted.nd rfl (.inl rfl) (pe_lst (pa_nil)))
      (pss_cons (ps_expr (pe_call (ok_put_nodes T) (hr.mono (by omega)) rfl T.d_put_nodes.g T.d_put_nodes.F.kp T.d_put_nodes.b .nil pass0 (pa_cons (pv 0) (pa_cons (pe_un un_neg (pe_int)) (pa_cons (pv 1) (pa_cons (pv 2) pa_nil))))))
      (pss_one (ps_ret (pe_tup (pa_cons (pv 1) (pa_cons (pv 2) pa_nil))))))), ?_⟩
    refine ⟨Nat.zero_le _, fun lw nw => ⟨Nat.zero_le _, fun lp np => ?_⟩⟩
    have s1 : Same H (upd H lw (.lst [])) := same_new nw
    have s2 : Same (upd H lw (.lst [])) (upd (upd H lw (.lst [])) lp (.lst [])) := same_new np
    have nwp : lw ≠ lp := fun e => by
      rw [← e, upd_same] at np
      cases np
    have e1 : (upd (upd H lw (.lst [])) lp (.lst [])) lw = some (.lst (ssV [])) := by rw [upd_ne nwp, upd_same]; rfl
    have e2 : (upd (upd H lw (.lst [])) lp (.lst [])) lp = some (.lst (isV [])) := upd_same
    have nl : H lp = none := s1.free np
    refine ⟨v, rfl, 1, rfl, _, rfl, _, rfl, v, F, -1, lw, lp, [], [], rfl, dp_same (s1.trans s2) hd, hF, nwp, e1, e2, rfl, by simp; omega, fun H3 b3 f1 f2 => ?_⟩
    have s3 : Same H H3 := fun b o h => b3 b o (s2 b o (s1 b o h)) (ne_of_none h nw) (ne_of_none h nl)
    refine ⟨_, rfl, _, rfl, by show 2 ≤ sizeLine; decide, fun t nt => ?_⟩
    have s4 : Same H3 (upd H3 t (.tup [.ref lw, .ref lp])) := same_new nt
    exact q _ t lw lp (s3.trans s4) upd_same (s4 _ _ f1) (s4 _ _ f2)
theorem scwordsof : FnScope ["a"] ["a"] (defScope (topS 26)) := ⟨rfl, rfl, rfl, by decide +kernel, rfl, by decide +kernel, by decide +kernel⟩
def spWordsOf (K : PySem.W.Frag) : Sp := fun vs H Q _ => ∃ v F, vs = [v] ∧ Dp K H v (enc F) ∧ F.size < 20 ∧ ∀ H' l, Same H H' → H' l = some (.lst (ssV (prw F))) → Q (.ref l) H'
theorem ok_words_of (T : Top P K mg) : FnOk P w K mg base CX0 22 T.d_words_of.f T.d_words_of.fd ["a"] (spWordsOf K) := by
  refine T.d_words_of.F.ok scwordsof (fun vs H Q E h => ?_) (fun cdv A outer s H vs Q E hr h => ?_)
  · obtain ⟨v, F, rfl, _⟩ := h
    rfl
  · obtain ⟨v, F, rfl, hd, hF, q⟩ := h
    refine ⟨_, pss_one (ps_ret (pe_ix ix_tup (pe_call (ok_listed T) (hr.mono (by omega)) rfl T.d_listed.g T.d_listed.F.kp T.d_listed.b .nil pass0 (pa_cons (pv 0) pa_nil)) (pe_int) (fun _ _ => rfl))), ?_⟩
    exact ⟨v, rfl, v, F, rfl, hd, hF, fun H1 t lw lp s1 et ew ep => ⟨t, _, 0, _, rfl, rfl, .inl (.inl et), atI_nat (j := 0) rfl, q H1 lw s1 ew⟩⟩
theorem scsizesby : FnScope ["parents", "sizes", "k", "_"] ["parents"] (defScope (topS 27)) := ⟨rfl, rfl, rfl, by decide +kernel, rfl, by decide +kernel, by decide +kernel⟩
/-- a new list of ints from a list of ints -/
def spInts (K : PySem.W.Frag) (ok : List Int → Prop) (f : List Int → List Int) : Sp := fun vs H Q _ => ∃ a ps, vs = [.ref a] ∧ SqL K H a (isV ps) ∧ ps.length ≤ 1000 ∧ ok ps ∧ ∀ H' l, Same H H' → H l = none → H' l = some (.lst (isV (f ps))) → Q (.ref l) H'
theorem ok_sizes_by (T : Top P K mg) : FnOk P w K mg base CX0 1 T.d_sizes_by.f T.d_sizes_by.fd ["parents"] (spInts K ParOk sizesOf) := by
  refine T.d_sizes_by.F.ok scsizesby (fun vs H Q E h => ?_) (fun cdv A outer s H vs Q E hr h => ?_)
  · obtain ⟨a, ps, rfl, _⟩ := h
    rfl
  · obtain ⟨a, ps, rfl, hS, hz, hok, q⟩ := h
    have hlen : (isV ps).length = ps.length := isV_len ps
    refine ⟨_, pss_cons (ps_setLc (i := 1) (own := [("_", 3)]) (g := gName 3) (tt := tYes) rfl scsizesby.nd rfl rfl (sw_true rfl rfl rfl (by decide +kernel)) (pi_list (pv 0)) (blkOk_by (own := [("_", 3)]) (N := ["parents", "sizes", "k", "_"]) (sc := defScope (topS 27)) (by decide +kernel)) (fun _ _ _ _ _ => pg_name (i := 3) scsizesby.nd rfl (.inl rfl)) (fun _ _ _ _ _ => pts_nil) (fun _ _ _ _ _ => pe_int))
      (pss_cons (ps_for PassesOwn.never rfl (pi_range3 rfl T.z_range (pa_cons (pe_op op_sub (pe_callB call_len_seq rfl T.z_len PySem.boot_len (pa_cons (pv 0) pa_nil)) (pe_int)) (pa_cons (pe_un un_neg (pe_int)) (pa_cons (pe_un un_neg (pe_int)) pa_nil)))) (pg_name (i := 2) scsizesby.nd rfl (.inl rfl))
      (pss_one (ps_if (pt_cmpR op_ge (pe_ix ix_list (pv 0) (pv 2) (fun _ _ => rfl)) (pe_int) (nomark _))
      (pss_one (ps_asg (pe_op op_add (pe_ix ix_list (pv 1) (pe_ix ix_list (pv 0) (pv 2) (fun _ _ => rfl)) (fun _ _ => rfl)) (pe_ix ix_list (pv 1) (pv 2) (fun _ _ => rfl))) (pg_sub (pv 1) (pe_ix ix_list (pv 0) (pv 2) (fun _ _ => rfl)) set_list)))
      (pss_nil))))
      (pss_one (ps_ret (pv 1)))), ?_⟩
    refine ⟨_, rfl, a, rfl, ⟨_, hS⟩, fun D hD => ?_⟩
    refine lc_it (walk_list (K := K) (xs := isV ps)) (fun i H' => Same H H' ∧ H' D = some (.lst (isV (List.replicate i 1)))) ⟨same_new hD, upd_same⟩ (fun i H' _ h => h.1.seq hS) ?_ ?_
    · rintro i x H1 H2 hi ⟨s1, e1⟩ ⟨rfl, _⟩
      refine ⟨rfl, _, e1, ?_, same_set s1 hD, ?_⟩
      · rw [isV_len, List.length_replicate]
        exact sz_lt (by omega)
      · rw [upd_same, ← rep_next, isV_app]
        rfl
    · rintro H1 ⟨s1, e1⟩
      rw [hlen] at e1
      have nDa : ∀ H', Same H H' → SqL K H' a (isV ps) := fun H' s => s.seq hS
      refine ⟨_, rfl, a, _, rfl, .inl (s1.seq hS), _, _, rfl, rfl, 1, rfl, 1, rfl, _, _, _, ps.length, rfl, ?_, ?_⟩
      · rw [hlen]
        have h := RgC.neg (i := (ps.length : Int) - 1) (j := -1) (by omega) (by omega) (by omega) (by omega)
        rw [show ((ps.length : Int) - 1 - -1).toNat = ps.length by omega] at h
        exact h
      rw [hlen]
      have ev : ∀ i : Nat, i < ps.length → (ps.length : Int) - 1 + (i : Int) * -1 = ((ps.length - 1 - i : Nat) : Int) := fun i h => by omega
      refine for_it walk_rangeC (fun i σ H' => ∃ y, σ = [some (.ref a), some (.ref D), y, none] ∧ Same H H' ∧ H' D = some (.lst (isV ((List.range' (ps.length - i) i).foldr (szStep ps) (List.replicate ps.length 1))))) ⟨none, rfl, s1, e1⟩ (fun _ _ _ _ _ => trivial) ?_ ?_
      · rintro i x σ H2 H3 hi ⟨y, rfl, s2, e2⟩ ⟨rfl, hx⟩
        have hx : x = V.int ((ps.length - 1 - i : Nat) : Int) := Eq.trans hx (congrArg V.int (ev i hi))
        subst hx
        generalize hS2 : (List.range' (ps.length - i) i).foldr (szStep ps) (List.replicate ps.length 1) = S at e2
        have lS : S.length = ps.length := by rw [← hS2, szFold_len, List.length_replicate]
        have nx : (List.range' (ps.length - (i + 1)) (i + 1)).foldr (szStep ps) (List.replicate ps.length 1) = szStep ps (ps.length - 1 - i) S := by rw [range_back _ _ hi, List.foldr_cons, hS2]
        have hk : ps.length - 1 - i < ps.length := by omega
        have hpk := hok _ hk
        rw [nx]
        generalize ps.length - 1 - i = k at hk hpk ⊢
        refine ⟨.ref a, rfl, _, rfl, a, _, _, _, rfl, rfl, s2.seq hS, atV rfl hk, _, 0, rfl, rfl, _, rfl, ?_⟩
        unfold szStep
        by_cases h0 : (0 : Int) ≤ gI ps k
        · rw [decide_eq_true h0, if_pos h0]
          have hj : (gI ps k).toNat < S.length := by omega
          refine ⟨.ref D, rfl, .ref a, rfl, _, rfl, a, _, _, _, rfl, rfl, s2.seq hS, atV rfl hk, D, _, _, _, rfl, rfl, .inl (.inl e2), atV (by omega) hj, .ref D, rfl, _, rfl, D, _, _, _, rfl, rfl, .inl (.inl e2), atV rfl (by omega), _, _, rfl, rfl, ?_⟩
          refine ⟨.ref D, rfl, .ref a, rfl, _, rfl, a, _, _, _, rfl, rfl, s2.seq hS, atV rfl hk, D, _, _, _, rfl, rfl, e2, ixN_nat (j := (gI ps k).toNat) (by omega) (by rw [isV_len]; exact hj), ?_⟩
          refine ⟨_, rfl, same_set s2 hD, ?_⟩
          rw [upd_same, isV_set]
        · rw [decide_eq_false h0, if_neg h0]
          exact ⟨_, rfl, s2, e2⟩
      · rintro σ H2 ⟨y, rfl, s2, e2⟩
        rw [Nat.sub_self, ← List.range_eq_range'] at e2
        exact ⟨_, rfl, q H2 D s2 hD e2⟩
end
end K14
set_option maxRecDepth 100000
set_option maxHeartbeats 4000000
namespace K14
open PySem PySem.Spec PyProof.Rows L2
open Fo
theorem levelsOf_next {ps : List Int} {i : Nat} {p : Int} (h : ps[i]? = some p) : levelsOf (ps.take (i + 1)) = levelsOf (ps.take i) ++ [lvNext (levelsOf (ps.take i)) p] := by
  unfold levelsOf
  rw [take_next h, List.foldl_append]
  rfl
theorem scat_next {X : Type} {ps : List Int} {xs arr : List X} {i : Nat} {p : Int} {x : X} (hp : ps[i]? = some p) (hx : xs[i]? = some x) : scat (ps.take (i + 1)) (xs.take (i + 1)) arr = (scat (ps.take i) (xs.take i) arr).set p.toNat x := by
  have h1 := (List.getElem?_eq_some_iff.mp hp).1
  have h2 := (List.getElem?_eq_some_iff.mp hx).1
  rw [take_next hp, take_next hx, scat_app _ _ _ _ _ (by rw [List.length_take, List.length_take]; omega)]
  rfl
theorem scat_len {X : Type} (ps : List Int) (xs : List X) : ∀ arr : List X, (scat ps xs arr).length = arr.length := by
  unfold scat
  generalize ps.zip xs = l
  induction l with
  | nil => exact fun _ => rfl
  | cons a r ih =>
    intro arr
    rw [List.foldl_cons, ih, List.length_set]
theorem prw_all {W : Type} {R : Int → Prop} : ∀ {F : Fo Int}, (∀ x, x ∈ prw F → R x) → ∀ i, i < F.size → R (gI (prw F) i) := fun {F} h i hi => by
  rw [← prw_len F] at hi
  exact h _ (List.mem_of_getElem? (gI_get hi))
theorem po_range {W : Type} : ∀ (F : Fo W) (o : Nat), ∀ x ∈ prw (poF o F), (o : Int) ≤ x ∧ x < o + F.size
  | .nil, _, x, h => by cases h
  | .snoc r w c, o, x, h => by
    rw [size_snoc]
    rcases List.mem_append.mp h with h | h
    · have := po_range r o x h
      omega
    · rcases List.mem_cons.mp h with h | h
      · omega
      · have := po_range c (o + r.size) x h
        omega
theorem numb_range {W : Type} : ∀ (F : Fo W) (q : Nat), ∀ x ∈ pow (numb q F), (q : Int) ≤ x ∧ x < q + F.size
  | .nil, _, x, h => by cases h
  | .snoc r w c, q, x, h => by
    rw [size_snoc]
    rcases List.mem_append.mp h with h | h
    · have := numb_range r q x h
      omega
    · rcases List.mem_append.mp h with h | h
      · have := numb_range c (q + r.size + 1) x h
        omega
      · cases List.mem_singleton.mp h
        omega
theorem gI_mem {l : List Int} {i : Nat} (h : i < l.length) : gI l i ∈ l := List.mem_of_getElem? (gI_get h)
/-- the sizes, levels, numbers of a forest's parents -/
theorem posts_of_par (F : Fo Str) : postsOf (sizesOf (prw (parF (-1) 0 F))) (levelsOf (prw (parF (-1) 0 F))) (prw (parF (-1) 0 F)).length = prw (poF 0 F) := by
  rw [sizesOf_par, levelsOf_par, prw_len, parF_size, postsOf_par]
theorem idx_get {n i : Nat} (h : i < n) : ((List.range' 0 n).map fun k : Nat => (k : Int))[i]? = some (i : Int) := by
  rw [List.getElem?_map, List.getElem?_range' h]
  simp
theorem firsts_eq (F : Fo Str) : (List.range F.size).map (fun i : Nat => (i : Int) - gI (prw (szF F)) (gI (pow (numb 0 F)) i).toNat + 1) = pow (leF 0 F) := by
  rw [← leaves_post F 0, ← gath_all 0 F (szF F) (sh_szF F), List.range_eq_range']
  apply List.ext_getElem?
  intro i
  by_cases h : i < F.size
  · rw [List.getElem?_map, List.getElem?_zipWith, List.getElem?_map, List.getElem?_range' h, gI_get (l := pow (numb 0 F)) (by rw [pow_len, numb_size]; exact h)]
    rw [show 0 + 1 * i = i by omega]
    rfl
  · rw [List.getElem?_eq_none (by simp; omega), List.getElem?_eq_none (by simp; omega)]
section
variable {P : Program} {w : World} {K : PySem.W.Frag} {mg : Str → Option Value} {base : Heap}
theorem sclevelsby : FnScope ["parents", "levels", "parent"] ["parents"] (defScope (topS 28)) := ⟨rfl, rfl, rfl, by decide +kernel, rfl, by decide +kernel, by decide +kernel⟩
theorem ok_levels_by (T : Top P K mg) : FnOk P w K mg base CX0 1 T.d_levels_by.f T.d_levels_by.fd ["parents"] (spInts K ParOk levelsOf) := by
  refine T.d_levels_by.F.ok sclevelsby (fun vs H Q E h => ?_) (fun cdv A outer s H vs Q E hr h => ?_)
  · obtain ⟨a, ps, rfl, _⟩ := h
    rfl
  · obtain ⟨a, ps, rfl, hS, hz, hok, q⟩ := h
    refine ⟨_, pss_cons (ps_set (i := 1) sclevelsby.nd rfl (.inl rfl) (pe_lst (pa_nil)))
      (pss_cons (ps_for PassesOwn.never rfl (pi_list (pv 0)) (pg_name (i := 2) sclevelsby.nd rfl (.inl rfl))
      (pss_one (ps_expr (pe_bm PySem.F.plainAttrs_list PySem.F.slot_list_append PySem.F.type_list_append mt_append (pv 1) (pa_cons (pe_ifExp (pt_cmpR op_lt (pv 2) (pe_int) (nomark _)) (pe_int) (pe_op op_add (pe_ix ix_list (pv 1) (pv 2) (fun _ _ => rfl)) (pe_int))) pa_nil)))))
      (pss_one (ps_ret (pv 1)))), ?_⟩
    refine ⟨Nat.zero_le _, fun D hD => ?_⟩
    refine ⟨_, rfl, a, rfl, ⟨_, (same_new hD).seq hS⟩, for_it (walk_list (K := K) (xs := isV ps)) (fun i σ H' => ∃ y, σ = [some (.ref a), some (.ref D), y] ∧ Same H H' ∧ H' D = some (.lst (isV (levelsOf (ps.take i))))) ⟨none, rfl, same_new hD, upd_same⟩ (fun i σ H' _ h => ?_) ?_ ?_⟩
    · obtain ⟨_, _, s1, _⟩ := h
      exact s1.seq hS
    · rintro i x σ H2 H3 hi ⟨y, rfl, s2, e2⟩ ⟨rfl, hx⟩
      rw [isV_len] at hi
      have hx : x = V.int (gI ps i) := Option.some.inj (hx.symm.trans (isV_at hi))
      subst hx
      have hp := gI_get hi
      have lt := hok i hi
      have ll : (levelsOf (ps.take i)).length = i := by rw [levelsOf_len, List.length_take]; omega
      refine ⟨_, rfl, .inl ⟨rfl, _, .inl (.inl e2)⟩, ?_⟩
      have fin : ∀ z, lvNext (levelsOf (ps.take i)) (gI ps i) = z → ∃ y, ([some (V.ref a), some (V.ref D), some (V.int (gI ps i))] : L2.St) = [some (.ref a), some (.ref D), y] ∧ Same H (upd H3 D (.lst (isV (levelsOf (ps.take i)) ++ [V.int z]))) ∧ (upd H3 D (.lst (isV (levelsOf (ps.take i)) ++ [V.int z]))) D = some (.lst (isV (levelsOf (ps.take (i + 1))))) := fun z hz =>
        ⟨_, rfl, same_set s2 hD, by rw [upd_same, levelsOf_next hp, hz, isV_app]; rfl⟩
      refine ⟨_, rfl, _, 0, rfl, rfl, _, rfl, ?_⟩
      by_cases h0 : gI ps i < 0
      · rw [decide_eq_true h0]
        exact ⟨D, _, _, rfl, rfl, e2, by rw [isV_len, ll]; exact sz_lt (by omega), fin 0 (by unfold lvNext; rw [if_pos h0])⟩
      · rw [decide_eq_false h0]
        refine ⟨_, rfl, _, rfl, D, _, _, _, rfl, rfl, .inl (.inl e2), atV (j := (gI ps i).toNat) (by omega) (by omega), _, _, rfl, rfl, D, _, _, rfl, rfl, e2, by rw [isV_len, ll]; exact sz_lt (by omega), fin _ (by unfold lvNext; rw [if_neg h0])⟩
    · rintro σ H2 ⟨y, rfl, s2, e2⟩
      rw [isV_len, List.take_length] at e2
      exact ⟨_, rfl, q H2 D s2 hD e2⟩
theorem scpostsby : FnScope ["parents", "sizes", "levels", "k"] ["parents"] (defScope (topS 29)) := ⟨rfl, rfl, rfl, by decide +kernel, rfl, by decide +kernel, by decide +kernel⟩
theorem ok_posts_by (T : Top P K mg) : FnOk P w K mg base CX0 2 T.d_posts_by.f T.d_posts_by.fd ["parents"] (spInts K ParOk fun ps => postsOf (sizesOf ps) (levelsOf ps) ps.length) := by
  refine T.d_posts_by.F.ok scpostsby (fun vs H Q E h => ?_) (fun cdv A outer s H vs Q E hr h => ?_)
  · obtain ⟨a, ps, rfl, _⟩ := h
    rfl
  · obtain ⟨a, ps, rfl, hS, hz, hok, q⟩ := h
    refine ⟨_, pss_cons (ps_set (i := 1) scpostsby.nd rfl (.inr rfl) (pe_call (ok_sizes_by T) (hr.mono (by omega)) rfl T.d_sizes_by.g T.d_sizes_by.F.kp T.d_sizes_by.b .nil pass0 (pa_cons (pv 0) pa_nil)))
      (pss_cons (ps_set (i := 2) scpostsby.nd rfl (.inr rfl) (pe_call (ok_levels_by T) (hr.mono (by omega)) rfl T.d_levels_by.g T.d_levels_by.F.kp T.d_levels_by.b .nil pass0 (pa_cons (pv 0) pa_nil)))
      (pss_one (ps_ret (pe_lc (own := [("k", 3)]) (g := gName 3) (tt := tYes) rfl scpostsby.nd (pi_range1 rfl T.z_range (pa_cons (pe_callB call_len_seq rfl T.z_len PySem.boot_len (pa_cons (pv 0) pa_nil)) pa_nil)) (blkOk_by (own := [("k", 3)]) (N := ["parents", "sizes", "levels", "k"]) (sc := defScope (topS 29)) (by decide +kernel)) (fun _ _ _ _ _ => pg_name (i := 3) scpostsby.nd rfl (.inl rfl)) (fun _ _ _ _ _ => pts_nil) (fun _ _ _ _ _ => pe_op op_sub (pe_op op_sub (pe_op op_add (pv 3) (pe_ix (ixL (K := K) rfl) (pv 1) (pv 3) (fun _ _ => rfl))) (pe_int)) (pe_ix (ixL (K := K) rfl) (pv 2) (pv 3) (fun _ _ => rfl))))))), ?_⟩
    refine ⟨_, rfl, a, ps, rfl, hS, hz, hok, fun H1 ls s1 _ es => ⟨_, rfl, a, ps, rfl, s1.seq hS, hz, hok, fun H2 ll s2 _ el => ?_⟩⟩
    have hS2 : SqL K H2 a (isV ps) := (s1.trans s2).seq hS
    have es2 := s2 _ _ es
    refine ⟨_, rfl, a, _, rfl, .inl hS2, (ps.length : Int), by rw [isV_len], by omega, by omega, fun D hD => ?_⟩
    rw [Int.toNat_natCast]
    refine lc_it walk_range (fun i H' => Same H2 H' ∧ H' D = some (.lst (isV ((List.range i).map fun k : Nat => (k : Int) + gI (sizesOf ps) k - 1 - gI (levelsOf ps) k)))) ⟨same_new hD, upd_same⟩ (fun _ _ _ _ => trivial) ?_ ?_
    · rintro i x H3 H4 hi ⟨s3, e3⟩ ⟨rfl, hx⟩
      have hx : x = V.int (i : Int) := hx.trans (by show V.int (0 + (i : Int)) = _; rw [Int.zero_add])
      subst hx
      refine ⟨rfl, _, rfl, _, rfl, _, rfl, ls, _, _, _, rfl, rfl, .inl (.inl (s3 _ _ es2)), atV rfl (by rw [sizesOf_len]; exact hi), _, _, rfl, rfl, _, _, rfl, rfl, _, rfl, _, rfl, ll, _, _, _, rfl, rfl, .inl (.inl (s3 _ _ el)), atV rfl (by rw [levelsOf_len]; exact hi), _, _, rfl, rfl, _, e3, ?_, same_set s3 hD, ?_⟩
      · rw [isV_len, List.length_map, List.length_range]
        exact sz_lt (by omega)
      · rw [upd_same, List.range_succ, List.map_append, isV_app]
        rfl
    · rintro H3 ⟨s3, e3⟩
      exact q H3 D ((s1.trans s2).trans s3) ((s1.trans s2).free hD) e3
theorem scnodesbehind : FnScope ["a", "posts", "found", "k", "place", "_"] ["a"] (defScope (topS 30)) := ⟨rfl, rfl, rfl, by decide +kernel, rfl, by decide +kernel, by decide +kernel⟩
def spNodes (K : PySem.W.Frag) (f : Fo Str → List Int) : Sp := fun vs H Q _ => ∃ v F, vs = [v] ∧ Dp K H v (enc F) ∧ F.size < 20 ∧ ∀ H' l, Same H H' → H' l = some (.lst (isV (f F))) → Q (.ref l) H'
theorem ok_nodes_behind (T : Top P K mg) : FnOk P w K mg base CX0 22 T.d_nodes_behind.f T.d_nodes_behind.fd ["a"] (spNodes K fun F => pow (numb 0 F)) := by
  refine T.d_nodes_behind.F.ok scnodesbehind (fun vs H Q E h => ?_) (fun cdv A outer s H vs Q E hr h => ?_)
  · obtain ⟨v, F, rfl, _⟩ := h
    rfl
  · obtain ⟨v, F, rfl, hd, hF, q⟩ := h
    refine ⟨_, pss_cons (ps_set (i := 1) scnodesbehind.nd rfl (.inl rfl) (pe_call (ok_posts_by T) (hr.mono (by omega)) rfl T.d_posts_by.g T.d_posts_by.F.kp T.d_posts_by.b .nil pass0 (pa_cons (pe_ix ix_tup (pe_call (ok_listed T) (hr.mono (by omega)) rfl T.d_listed.g T.d_listed.F.kp T.d_listed.b .nil pass0 (pa_cons (pv 0) pa_nil)) (pe_int) (fun _ _ => rfl)) pa_nil)))
      (pss_cons (ps_setLc (i := 2) (own := [("_", 5)]) (g := gName 5) (tt := tYes) rfl scnodesbehind.nd rfl rfl (sw_true rfl rfl rfl (by decide +kernel)) (pi_list (pv 1)) (blkOk_by (own := [("_", 5)]) (N := ["a", "posts", "found", "k", "place", "_"]) (sc := defScope (topS 30)) (by decide +kernel)) (fun _ _ _ _ _ => pg_name (i := 5) scnodesbehind.nd rfl (.inl rfl)) (fun _ _ _ _ _ => pts_nil) (fun _ _ _ _ _ => pe_int))
      (pss_cons (ps_for PassesOwn.never rfl (pi_enum rfl T.z_enumerate (pa_cons (pv 1) pa_nil)) (pg_tup rfl (pgs_cons (pg_name (i := 3) scnodesbehind.nd rfl (.inl rfl)) (pgs_cons (pg_name (i := 4) scnodesbehind.nd rfl (.inl rfl)) (pgs_nil))))
      (pss_one (ps_asg (pv 3) (pg_sub (pv 2) (pv 4) set_list))))
      (pss_one (ps_ret (pv 2))))), ?_⟩
    refine ⟨v, rfl, v, F, rfl, hd, hF, fun H1 t lw lp s1 et ew ep => ?_⟩
    have hn : (prw (parF (-1) 0 F)).length = F.size := by rw [prw_len, parF_size]
    refine ⟨t, _, 1, .ref lp, rfl, rfl, .inl (.inl et), atI_nat (j := 1) rfl, lp, prw (parF (-1) 0 F), rfl, .inl (.inl ep), by omega, parOk F, fun H2 ls s2 _ e2 => ?_⟩
    have e2 : H2 ls = some (.lst (isV (prw (poF 0 F)))) := by rw [← posts_of_par]; exact e2
    refine ⟨_, rfl, ls, rfl, ⟨_, .inl (.inl e2)⟩, fun D hD => ?_⟩
    have hlen : (prw (poF 0 F)).length = F.size := by rw [prw_len, poF_size]
    refine lc_it (walk_list (K := K) (xs := isV (prw (poF 0 F)))) (fun i H' => Same H2 H' ∧ H' D = some (.lst (isV (List.replicate i 0)))) ⟨same_new hD, upd_same⟩ (fun i H' _ h => .inl (.inl (h.1 _ _ e2))) ?_ ?_
    · rintro i x H3 H4 hi ⟨s3, e3⟩ ⟨rfl, _⟩
      rw [isV_len, hlen] at hi
      refine ⟨rfl, _, e3, ?_, same_set s3 hD, ?_⟩
      · rw [isV_len, List.length_replicate]
        exact sz_lt (by omega)
      · rw [upd_same, ← rep_next, isV_app]
        rfl
    · rintro H3 ⟨s3, e3⟩
      rw [isV_len, hlen] at e3
      refine ⟨_, rfl, ls, _, rfl, .inl (.inl (s3 _ _ e2)), ?_⟩
      have s0 : Same H H3 := (s1.trans s2).trans s3
      have nD : H D = none := (s1.trans s2).free hD
      have nD2 := hD
      refine for_it (walk_enum (K := K) (xs := isV (prw (poF 0 F)))) (fun i σ H' => ∃ y1 y2, σ = [some v, some (.ref ls), some (.ref D), y1, y2, none] ∧ Same H2 H' ∧ H' D = some (.lst (isV (scat ((prw (poF 0 F)).take i) (((List.range' 0 F.size).map fun k : Nat => (k : Int)).take i) (List.replicate F.size 0))))) ⟨none, none, rfl, s3, e3⟩ (fun i σ H' _ h => ?_) ?_ ?_
      · obtain ⟨_, _, _, s4, _⟩ := h
        exact .inl (.inl (s4 _ _ e2))
      · rintro i x σ H4 H5 hi ⟨y1, y2, rfl, s4, e4⟩ ⟨tp, u, z, rfl, ntp, rfl, hu, hzz⟩
        rw [isV_len, hlen] at hi
        have hu : V.int (i : Int) = u := Option.some.inj hu
        have hzz : z = V.int (gI (prw (poF 0 F)) i) := Option.some.inj (hzz.symm.trans (isV_at (by omega)))
        subst hu
        subst hzz
        have hpo := po_range F 0 _ (gI_mem (l := prw (poF 0 F)) (i := i) (by omega))
        have s5 : Same H4 (upd H4 tp (.tup [.int (i : Int), .int (gI (prw (poF 0 F)) i)])) := same_new ntp
        have eD := s5 _ _ e4
        refine ⟨tp, _, rfl, .inl (.inl upd_same), rfl, _, _, rfl, _, _, rfl, rfl, ?_⟩
        refine ⟨_, rfl, .ref D, rfl, _, rfl, D, _, _, _, rfl, rfl, eD, ixN_nat (j := (gI (prw (poF 0 F)) i).toNat) (by omega) (by rw [isV_len, scat_len, List.length_replicate]; omega), _, _, rfl, same_set (s4.trans s5) nD2, ?_⟩
        rw [upd_same, isV_set, scat_next (gI_get (by omega)) (idx_get hi)]
      · rintro σ H4 ⟨y1, y2, rfl, s4, e4⟩
        rw [isV_len, List.take_length, hlen, List.take_of_length_le (by simp), ← numb_prw F 0, scat_all F (numb 0 F) _ (sh_numb F 0) (by simp)] at e4
        exact ⟨_, rfl, q H4 D ((s1.trans s2).trans s4) e4⟩
theorem scfirstsof : FnScope ["a", "sizes", "place", "k"] ["a"] (defScope (topS 31)) := ⟨rfl, rfl, rfl, by decide +kernel, rfl, by decide +kernel, by decide +kernel⟩
theorem ok_firsts_of (T : Top P K mg) : FnOk P w K mg base CX0 23 T.d_firsts_of.f T.d_firsts_of.fd ["a"] (spNodes K fun F => pow (leF 0 F)) := by
  refine T.d_firsts_of.F.ok scfirstsof (fun vs H Q E h => ?_) (fun cdv A outer s H vs Q E hr h => ?_)
  · obtain ⟨v, F, rfl, _⟩ := h
    rfl
  · obtain ⟨v, F, rfl, hd, hF, q⟩ := h
    refine ⟨_, pss_cons (ps_set (i := 1) scfirstsof.nd rfl (.inr rfl) (pe_call (ok_sizes_by T) (hr.mono (by omega)) rfl T.d_sizes_by.g T.d_sizes_by.F.kp T.d_sizes_by.b .nil pass0 (pa_cons (pe_ix ix_tup (pe_call (ok_listed T) (hr.mono (by omega)) rfl T.d_listed.g T.d_listed.F.kp T.d_listed.b .nil pass0 (pa_cons (pv 0) pa_nil)) (pe_int) (fun _ _ => rfl)) pa_nil)))
      (pss_one (ps_ret (pe_lc (own := [("place", 2), ("k", 3)]) (g := gTup K 2 (gCons (gName 2) (gCons (gName 3) (gNil)))) (tt := tYes) rfl scfirstsof.nd (pi_enum rfl T.z_enumerate (pa_cons (pe_call (ok_nodes_behind T) (hr.mono (by omega)) rfl T.d_nodes_behind.g T.d_nodes_behind.F.kp T.d_nodes_behind.b .nil pass0 (pa_cons (pv 0) pa_nil)) pa_nil)) (blkOk_by (own := [("place", 2), ("k", 3)]) (N := ["a", "sizes", "place", "k"]) (sc := defScope (topS 31)) (by decide +kernel)) (fun _ _ _ _ _ => pg_tup rfl (pgs_cons (pg_name (i := 2) scfirstsof.nd rfl (.inl rfl)) (pgs_cons (pg_name (i := 3) scfirstsof.nd rfl (.inl rfl)) (pgs_nil)))) (fun _ _ _ _ _ => pts_nil) (fun _ _ _ _ _ => pe_op op_add (pe_op op_sub (pv 2) (pe_ix (ixL (K := K) rfl) (pv 1) (pv 3) (fun _ _ => rfl))) (pe_int))))), ?_⟩
    refine ⟨v, rfl, v, F, rfl, hd, hF, fun H1 t lw lp s1 et ew ep => ?_⟩
    have hn : (prw (parF (-1) 0 F)).length = F.size := by rw [prw_len, parF_size]
    refine ⟨t, _, 1, .ref lp, rfl, rfl, .inl (.inl et), atI_nat (j := 1) rfl, lp, prw (parF (-1) 0 F), rfl, .inl (.inl ep), by omega, parOk F, fun H2 ls s2 _ e2 => ?_⟩
    rw [sizesOf_par] at e2
    have s12 := s1.trans s2
    refine ⟨v, rfl, v, F, rfl, dp_same s12 hd, hF, fun H3 ln s3 e3 => ⟨ln, _, rfl, .inl (.inl e3), fun D hD => ?_⟩⟩
    have hlen : (pow (numb 0 F)).length = F.size := by rw [pow_len, numb_size]
    refine lc_it (walk_enum (K := K) (xs := isV (pow (numb 0 F)))) (fun i H' => Same H3 H' ∧ H' D = some (.lst (isV ((List.range i).map fun i : Nat => (i : Int) - gI (prw (szF F)) (gI (pow (numb 0 F)) i).toNat + 1)))) ⟨same_new hD, upd_same⟩ (fun i H' _ h => .inl (.inl (h.1 _ _ e3))) ?_ ?_
    · rintro i x H4 H5 hi ⟨s4, e4⟩ ⟨tp, u, z, rfl, ntp, rfl, hu, hzz⟩
      rw [isV_len, hlen] at hi
      have hu : V.int (i : Int) = u := Option.some.inj hu
      have hzz : z = V.int (gI (pow (numb 0 F)) i) := Option.some.inj (hzz.symm.trans (isV_at (by omega)))
      subst hu
      subst hzz
      have hnb := numb_range F 0 _ (gI_mem (l := pow (numb 0 F)) (i := i) (by omega))
      have s5 : Same H4 (upd H4 tp (.tup [.int (i : Int), .int (gI (pow (numb 0 F)) i)])) := same_new ntp
      refine ⟨tp, _, rfl, .inl (.inl upd_same), rfl, _, _, rfl, _, _, rfl, rfl, rfl, ?_⟩
      refine ⟨_, rfl, _, rfl, _, rfl, ls, _, _, _, rfl, rfl, .inl (.inl (s5 _ _ (s4 _ _ (s3 _ _ e2)))), atV (j := (gI (pow (numb 0 F)) i).toNat) (by omega) (by rw [prw_len, szF_size]; omega), _, _, rfl, rfl, _, _, rfl, rfl, _, s5 _ _ e4, ?_, same_set (s4.trans s5) hD, ?_⟩
      · rw [isV_len, List.length_map, List.length_range]
        exact sz_lt (by omega)
      · rw [upd_same, List.range_succ, List.map_append, isV_app]
        rfl
    · rintro H4 ⟨s4, e4⟩
      rw [isV_len, hlen, firsts_eq] at e4
      exact q H4 D ((s12.trans s3).trans s4) e4
end
end K14
set_option maxRecDepth 100000
set_option maxHeartbeats 4000000
namespace K14
open PySem PySem.Spec PyProof.Rows L2
open Fo
/-! ### the attributes of Stretches -/
def stF (n1 n2 w1 w2 f1 f2 pr kd : V) : List (Str × V) :=
  putF "known" kd (putF "prices" pr (putF "firsts_there" f2 (putF "firsts" f1 (putF "words_there" w2 (putF "words" w1 (putF "others" n2 (putF "nodes" n1 [])))))))
theorem stF_len (n1 n2 w1 w2 f1 f2 pr kd : V) : (stF n1 n2 w1 w2 f1 f2 pr kd).length ≤ 8 := by
  unfold stF
  have h : ∀ (f : Str) (v : V) (fs : List (Str × V)) (n : Nat), fs.length ≤ n → (putF f v fs).length ≤ n + 1 := fun f v fs n q => Nat.le_trans (length_putF f v fs) (by omega)
  exact h _ _ _ 7 (h _ _ _ 6 (h _ _ _ 5 (h _ _ _ 4 (h _ _ _ 3 (h _ _ _ 2 (h _ _ _ 1 (h _ _ _ 0 (Nat.le_refl _))))))))
section
variable (n1 n2 w1 w2 f1 f2 pr kd : V)
theorem stF_known : (stF n1 n2 w1 w2 f1 f2 pr kd).lookup ("known" : Str) = some kd := by
  unfold stF
  rw [lookup_putF, if_pos rfl]
theorem stF_prices : (stF n1 n2 w1 w2 f1 f2 pr kd).lookup ("prices" : Str) = some pr := by
  unfold stF
  rw [lookup_putF, if_neg (by decide +kernel), lookup_putF, if_pos rfl]
theorem stF_firsts2 : (stF n1 n2 w1 w2 f1 f2 pr kd).lookup ("firsts_there" : Str) = some f2 := by
  unfold stF
  rw [lookup_putF, if_neg (by decide +kernel), lookup_putF, if_neg (by decide +kernel), lookup_putF, if_pos rfl]
theorem stF_firsts : (stF n1 n2 w1 w2 f1 f2 pr kd).lookup ("firsts" : Str) = some f1 := by
  unfold stF
  rw [lookup_putF, if_neg (by decide +kernel), lookup_putF, if_neg (by decide +kernel), lookup_putF, if_neg (by decide +kernel), lookup_putF, if_pos rfl]
theorem stF_words2 : (stF n1 n2 w1 w2 f1 f2 pr kd).lookup ("words_there" : Str) = some w2 := by
  unfold stF
  rw [lookup_putF, if_neg (by decide +kernel), lookup_putF, if_neg (by decide +kernel), lookup_putF, if_neg (by decide +kernel), lookup_putF, if_neg (by decide +kernel), lookup_putF, if_pos rfl]
theorem stF_words : (stF n1 n2 w1 w2 f1 f2 pr kd).lookup ("words" : Str) = some w1 := by
  unfold stF
  rw [lookup_putF, if_neg (by decide +kernel), lookup_putF, if_neg (by decide +kernel), lookup_putF, if_neg (by decide +kernel), lookup_putF, if_neg (by decide +kernel), lookup_putF, if_neg (by decide +kernel), lookup_putF, if_pos rfl]
theorem stF_no {m : Str} (h1 : ¬ m = "known") (h2 : ¬ m = "prices") (h3 : ¬ m = "firsts_there") (h4 : ¬ m = "firsts") (h5 : ¬ m = "words_there") (h6 : ¬ m = "words") (h7 : ¬ m = "others") (h8 : ¬ m = "nodes") : (stF n1 n2 w1 w2 f1 f2 pr kd).lookup m = none := by
  unfold stF
  rw [lookup_putF, if_neg h1, lookup_putF, if_neg h2, lookup_putF, if_neg h3, lookup_putF, if_neg h4, lookup_putF, if_neg h5, lookup_putF, if_neg h6, lookup_putF, if_neg h7, lookup_putF, if_neg h8]
  rfl
theorem stF_whole : (stF n1 n2 w1 w2 f1 f2 pr kd).lookup ("whole" : Str) = none := stF_no _ _ _ _ _ _ _ _ (by decide +kernel) (by decide +kernel) (by decide +kernel) (by decide +kernel) (by decide +kernel) (by decide +kernel) (by decide +kernel) (by decide +kernel)
theorem stF_change : (stF n1 n2 w1 w2 f1 f2 pr kd).lookup ("change" : Str) = none := stF_no _ _ _ _ _ _ _ _ (by decide +kernel) (by decide +kernel) (by decide +kernel) (by decide +kernel) (by decide +kernel) (by decide +kernel) (by decide +kernel) (by decide +kernel)
theorem stF_parts : (stF n1 n2 w1 w2 f1 f2 pr kd).lookup ("parts" : Str) = none := stF_no _ _ _ _ _ _ _ _ (by decide +kernel) (by decide +kernel) (by decide +kernel) (by decide +kernel) (by decide +kernel) (by decide +kernel) (by decide +kernel) (by decide +kernel)
theorem stF_least : (stF n1 n2 w1 w2 f1 f2 pr kd).lookup ("least" : Str) = none := stF_no _ _ _ _ _ _ _ _ (by decide +kernel) (by decide +kernel) (by decide +kernel) (by decide +kernel) (by decide +kernel) (by decide +kernel) (by decide +kernel) (by decide +kernel)
end
/-! ### what is known: a dict from two stretches to their distance -/
def keyO (o n o' n' : Nat) : List Key := [.inl (o : Int), .inl ((o : Int) + n - 1), .inl (o' : Int), .inl ((o' : Int) + n' - 1)]
def allKeys : List (List Key) := (List.range 21).flatMap fun o => (List.range 21).flatMap fun n => (List.range 21).flatMap fun o' => (List.range 21).map fun n' => keyO o n o' n'
structure KnownOk (ws : List Str) (ls : List Int) (ws' : List Str) (ls' : List Int) (p : Pr Str) (kvs : List (List Key × V)) : Prop where
  nd : (kvs.map (·.1)).Nodup
  all : ∀ k ∈ kvs.map (·.1), k ∈ allKeys
  ok : ∀ o F o' G v, Seg ws ls o F → Seg ws' ls' o' G → valV kvs (keyO o F.size o' G.size) = some v → v = .int (dist p F G)
theorem flatMap_len {α β : Type} (c : Nat) (f : α → List β) : ∀ l : List α, (∀ x ∈ l, (f x).length ≤ c) → (l.flatMap f).length ≤ l.length * c
  | [], _ => by simp
  | x :: r, h => by
    rw [List.flatMap_cons, List.length_append, List.length_cons, Nat.add_mul, Nat.one_mul]
    have h1 := h x List.mem_cons_self
    have h2 := flatMap_len c f r fun y hy => h y (List.mem_cons_of_mem _ hy)
    omega
theorem allKeys_len : allKeys.length ≤ 194481 := by
  have h3 : ∀ o n o' : Nat, ((List.range 21).map fun n' => keyO o n o' n').length ≤ 21 := fun o n o' => by simp
  have h2 : ∀ o n : Nat, ((List.range 21).flatMap fun o' => (List.range 21).map fun n' => keyO o n o' n').length ≤ 441 := fun o n => by
    have := flatMap_len 21 (fun o' => (List.range 21).map fun n' => keyO o n o' n') (List.range 21) fun x _ => h3 o n x
    simpa using this
  have h1 : ∀ o : Nat, ((List.range 21).flatMap fun n => (List.range 21).flatMap fun o' => (List.range 21).map fun n' => keyO o n o' n').length ≤ 9261 := fun o => by
    have := flatMap_len 441 (fun n => (List.range 21).flatMap fun o' => (List.range 21).map fun n' => keyO o n o' n') (List.range 21) fun x _ => h2 o x
    simpa using this
  have := flatMap_len 9261 (fun o => (List.range 21).flatMap fun n => (List.range 21).flatMap fun o' => (List.range 21).map fun n' => keyO o n o' n') (List.range 21) fun x _ => h1 x
  simpa [allKeys] using this
theorem allKeys_mem {o n o' n' : Nat} (h1 : o < 21) (h2 : n < 21) (h3 : o' < 21) (h4 : n' < 21) : keyO o n o' n' ∈ allKeys :=
  List.mem_flatMap.mpr ⟨o, List.mem_range.mpr h1, List.mem_flatMap.mpr ⟨n, List.mem_range.mpr h2, List.mem_flatMap.mpr ⟨o', List.mem_range.mpr h3, List.mem_map.mpr ⟨n', List.mem_range.mpr h4, rfl⟩⟩⟩⟩
theorem nodup_len {α : Type} [DecidableEq α] : ∀ (l m : List α), l.Nodup → (∀ x ∈ l, x ∈ m) → l.length ≤ m.length
  | [], _, _, _ => Nat.zero_le _
  | x :: r, m, hn, hm => by
    have hx := hm x List.mem_cons_self
    obtain ⟨n1, n2⟩ := List.nodup_cons.mp hn
    have ih := nodup_len r (m.erase x) n2 fun y hy => (List.mem_erase_of_ne (fun e : y = x => n1 (by rw [← e]; exact hy))).mpr (hm y (List.mem_cons_of_mem _ hy))
    rw [List.length_erase_of_mem hx] at ih
    have : 0 < m.length := List.length_pos_of_mem hx
    rw [List.length_cons]
    omega
section
variable {ws : List Str} {ls : List Int} {ws' : List Str} {ls' : List Int} {p : Pr Str} {kvs : List (List Key × V)}
theorem KnownOk.len (h : KnownOk ws ls ws' ls' p kvs) : kvs.length ≤ 194481 := by
  have := nodup_len _ _ h.nd h.all
  rw [List.length_map] at this
  exact Nat.le_trans this allKeys_len
theorem knownOk_nil : KnownOk ws ls ws' ls' p [] := ⟨List.nodup_nil, (fun _ h => nomatch h), fun _ _ _ _ _ _ _ h => nomatch h⟩
theorem putK_in {kvs : List (List Key × V)} {k : List Key} {v : V} (h : k ∈ kvs.map (·.1)) : (putK kvs k v).map (·.1) = kvs.map (·.1) := by
  have e : (kvs.any fun kv => decide (kv.1 = k)) = true := by
    obtain ⟨q, hq, e⟩ := List.mem_map.mp h
    exact List.any_eq_true.mpr ⟨q, hq, decide_eq_true e⟩
  unfold putK
  rw [if_pos e, List.map_map]
  apply List.map_congr_left
  intro q _
  show (if q.1 = k then (q.1, v) else q).1 = q.1
  split <;> rfl
theorem putK_out {kvs : List (List Key × V)} {k : List Key} {v : V} (h : ¬ k ∈ kvs.map (·.1)) : (putK kvs k v).map (·.1) = kvs.map (·.1) ++ [k] := by
  have e : ¬ (kvs.any fun kv => decide (kv.1 = k)) = true := fun z => by
    obtain ⟨q, hq, e⟩ := List.any_eq_true.mp z
    exact h (List.mem_map.mpr ⟨q, hq, of_decide_eq_true e⟩)
  unfold putK
  rw [if_neg e, List.map_append]
  rfl
theorem keyO_inj {o n o' n' o2 n2 o2' n2' : Nat} (h : keyO o n o' n' = keyO o2 n2 o2' n2') : o = o2 ∧ n = n2 ∧ o' = o2' ∧ n' = n2' := by
  unfold keyO at h
  injection h with h1 h
  injection h with h2 h
  injection h with h3 h
  injection h with h4 h
  have e1 := Sum.inl.inj h1
  have e2 := Sum.inl.inj h2
  have e3 := Sum.inl.inj h3
  have e4 := Sum.inl.inj h4
  omega
theorem KnownOk.put (h : KnownOk ws ls ws' ls' p kvs) {o o' : Nat} {F G : Fo Str} (hF : Seg ws ls o F) (hG : Seg ws' ls' o' G) (h1 : o + F.size < 20) (h2 : o' + G.size < 20) : KnownOk ws ls ws' ls' p (putK kvs (keyO o F.size o' G.size) (.int (dist p F G))) := by
  refine ⟨?_, fun k hk => ?_, fun o2 F2 o2' G2 v s1 s2 hv => ?_⟩
  · by_cases hn : keyO o F.size o' G.size ∈ kvs.map (·.1)
    · rw [putK_in hn]
      exact h.nd
    · rw [putK_out hn]
      refine List.nodup_append.mpr ⟨h.nd, List.nodup_cons.mpr ⟨by simp, List.nodup_nil⟩, fun a ha b hb e => hn ?_⟩
      rw [← List.mem_singleton.mp hb, ← e]
      exact ha
  · by_cases hn : keyO o F.size o' G.size ∈ kvs.map (·.1)
    · rw [putK_in hn] at hk
      exact h.all k hk
    · rw [putK_out hn] at hk
      rcases List.mem_append.mp hk with hk | hk
      · exact h.all k hk
      · rw [List.mem_singleton.mp hk]
        exact allKeys_mem (by omega) (by omega) (by omega) (by omega)
  · rw [valV_put] at hv
    by_cases e : keyO o2 F2.size o2' G2.size = keyO o F.size o' G.size
    · rw [if_pos e] at hv
      obtain ⟨e1, e2, e3, e4⟩ := keyO_inj e
      subst e1
      subst e3
      rw [s1.uniq hF e2, s2.uniq hG e4]
      exact (Option.some.inj hv).symm
    · rw [if_neg e] at hv
      exact h.ok o2 F2 o2' G2 v s1 s2 hv
end
/-! ### an instance -/
/-- the words, first leaves and prices that it keeps -/
structure StAt (K : PySem.W.Frag) (CS : Addr) (H : Hp) (x kd : Addr) (F G : Fo Str) (d m c : Int) (T : List (Str × Str × Int)) : Prop where
  at_ : ∃ dx n1 n2 w1 w2 f1 f2 vp, H x = some (.ins CS dx (stF n1 n2 (.ref w1) (.ref w2) (.ref f1) (.ref f2) vp (.ref kd))) ∧ H w1 = some (.lst (ssV (pow F))) ∧ H w2 = some (.lst (ssV (pow G))) ∧
    H f1 = some (.lst (isV (pow (leF 0 F)))) ∧ H f2 = some (.lst (isV (pow (leF 0 G)))) ∧ Dp K H vp (prD d m c T)
  kn : ∃ kvs, H kd = some (.dT kvs) ∧ KnownOk (pow F) (pow (leF 0 F)) (pow G) (pow (leF 0 G)) (prOf d m c T) kvs
/-- all but the one at a -/
def But1 (a : Addr) (H H' : Hp) : Prop := ∀ c o, H c = some o → c ≠ a → H' c = some o
theorem But1.trans {a : Addr} {H H1 H2 : Hp} (x : But1 a H H1) (y : But1 a H1 H2) : But1 a H H2 := fun c o h p => y c o (x c o h p) p
theorem Same.but {a : Addr} {H H1 : Hp} (x : Same H H1) : But1 a H H1 := fun c o h _ => x c o h
theorem but_of {a : Addr} {H H1 : Hp} (x : Same H H1) : But1 a H H1 := fun c o h _ => x c o h
theorem but_set {a : Addr} {H : Hp} {o : HO} : But1 a H (upd H a o) := fun c u h p => by rw [upd_ne p]; exact h
theorem But1.sameT {a : Addr} {H H' : Hp} {z : HO} (x : But1 a H H') (ha : H a = some z) (m : ¬ tupO z) : SameT H H' := fun c o h n => x c o h (ne_tup h n ha m)
theorem noLists_tr : ∀ T : List (Str × Str × Int), noLists (T.map trD) = true
  | [] => by simp [noLists]
  | t :: r => by
    simp only [List.map_cons, noLists, trD, noList, Bool.and_eq_true]
    exact ⟨⟨trivial, trivial, trivial, trivial⟩, noLists_tr r⟩
theorem noList_pr (d m c : Int) (T : List (Str × Str × Int)) : noList (prD d m c T) = true := by
  unfold prD
  simp only [noList, noLists, noLists_tr T, Bool.and_self]
section
variable {P : Program} {w : World} {K : PySem.W.Frag} {mg : Str → Option Value} {base : Heap}
/-- the words gathered by postorder -/
theorem gath_at (F : Fo Str) {i : Nat} (h : i < F.size) : (ssV (prw F))[(gI (pow (numb 0 F)) i).toNat]? = some (.str ((pow F).getD i (PySem.Str.ofString ""))) ∧ (pow F)[i]? = some ((pow F).getD i (PySem.Str.ofString "")) := by
  have hp : (pow F)[i]? = some ((pow F).getD i (PySem.Str.ofString "")) := by
    rw [List.getD_eq_getElem?_getD, List.getElem?_eq_getElem (by rw [pow_len]; exact h)]
    rfl
  refine ⟨?_, hp⟩
  have hn := numb_range F 0 _ (gI_mem (l := pow (numb 0 F)) (i := i) (by rw [pow_len, numb_size]; exact h))
  have g := congrArg (fun l => l[i]?) (gath_all (PySem.Str.ofString "") F F (Sh.refl F))
  have g2 : ((pow (numb 0 F)).map fun k => (prw F).getD k.toNat (PySem.Str.ofString ""))[i]? = (pow F)[i]? := g
  rw [List.getElem?_map, gI_get (l := pow (numb 0 F)) (by rw [pow_len, numb_size]; exact h), hp] at g2
  have g3 : (prw F).getD (gI (pow (numb 0 F)) i).toNat (PySem.Str.ofString "") = (pow F).getD i (PySem.Str.ofString "") := Option.some.inj g2
  unfold ssV
  rw [List.getElem?_map, List.getElem?_eq_getElem (by rw [prw_len]; omega), ← g3, List.getD_eq_getElem?_getD, List.getElem?_eq_getElem (by rw [prw_len]; omega)]
  rfl
theorem scStretchesinit : FnScope ["self", "a", "b", "prices", "words", "k"] ["self", "a", "b", "prices"] (defScope (inClass (topS 33) 0)) := ⟨rfl, rfl, rfl, by decide +kernel, rfl, by decide +kernel, by decide +kernel⟩
def spStInit (K : PySem.W.Frag) (CS : Addr) : Sp := fun vs H Q _ => ∃ x dx va vb vp F G d m c T, vs = [.ref x, va, vb, vp] ∧ H x = some (.ins CS dx []) ∧ Dp K H va (enc F) ∧ F.size < 20 ∧ Dp K H vb (enc G) ∧ G.size < 20 ∧ Dp K H vp (prD d m c T) ∧
  ∀ H' kd, StAt K CS H' x kd F G d m c T → But1 x H H' → H kd = none → Q .non H'
theorem ok_S_init (T : Top P K mg) : FnOk P w K mg base CX0 24 T.m_init.f T.m_init.fd ["self", "a", "b", "prices"] (spStInit K T.CS) := by
  refine T.m_init.F.ok scStretchesinit (fun vs H Q E h => ?_) (fun cdv A outer s H vs Q E hr h => ?_)
  · obtain ⟨x, dx, va, vb, vp, F, G, d, m, c, T, rfl, _⟩ := h
    rfl
  · obtain ⟨x, dx, va, vb, vp, F, G, d, m, c, Tb, rfl, hx, ha, hF, hb, hG, hp, q⟩ := h
    refine ⟨_, pss_cons (ps_fld (pv 0) (pe_call (ok_nodes_behind T) (hr.mono (by omega)) rfl T.d_nodes_behind.g T.d_nodes_behind.F.kp T.d_nodes_behind.b .nil pass0 (pa_cons (pv 1) pa_nil)) rfl)
      (pss_cons (ps_fld (pv 0) (pe_call (ok_nodes_behind T) (hr.mono (by omega)) rfl T.d_nodes_behind.g T.d_nodes_behind.F.kp T.d_nodes_behind.b .nil pass0 (pa_cons (pv 2) pa_nil)) rfl)
      (pss_cons (ps_set (i := 4) scStretchesinit.nd rfl (.inr rfl) (pe_call (ok_words_of T) (hr.mono (by omega)) rfl T.d_words_of.g T.d_words_of.F.kp T.d_words_of.b .nil pass0 (pa_cons (pv 1) pa_nil)))
      (pss_cons (ps_fld (pv 0) (pe_lc (own := [("k", 5)]) (g := gName 5) (tt := tYes) rfl scStretchesinit.nd (pi_list (pe_fld (pv 0) rfl)) (blkOk_by (own := [("k", 5)]) (N := ["self", "a", "b", "prices", "words", "k"]) (sc := defScope (inClass (topS 33) 0)) (by decide +kernel)) (fun _ _ _ _ _ => pg_name (i := 5) scStretchesinit.nd rfl (.inl rfl)) (fun _ _ _ _ _ => pts_nil) (fun _ _ _ _ _ => pe_ix (ixL (K := K) rfl) (pv 4) (pv 5) (fun _ _ => rfl))) rfl)
      (pss_cons (ps_set (i := 4) scStretchesinit.nd rfl (.inr rfl) (pe_call (ok_words_of T) (hr.mono (by omega)) rfl T.d_words_of.g T.d_words_of.F.kp T.d_words_of.b .nil pass0 (pa_cons (pv 2) pa_nil)))
      (pss_cons (ps_fld (pv 0) (pe_lc (own := [("k", 5)]) (g := gName 5) (tt := tYes) rfl scStretchesinit.nd (pi_list (pe_fld (pv 0) rfl)) (blkOk_by (own := [("k", 5)]) (N := ["self", "a", "b", "prices", "words", "k"]) (sc := defScope (inClass (topS 33) 0)) (by decide +kernel)) (fun _ _ _ _ _ => pg_name (i := 5) scStretchesinit.nd rfl (.inl rfl)) (fun _ _ _ _ _ => pts_nil) (fun _ _ _ _ _ => pe_ix (ixL (K := K) rfl) (pv 4) (pv 5) (fun _ _ => rfl))) rfl)
      (pss_cons (ps_fld (pv 0) (pe_call (ok_firsts_of T) (hr.mono (by omega)) rfl T.d_firsts_of.g T.d_firsts_of.F.kp T.d_firsts_of.b .nil pass0 (pa_cons (pv 1) pa_nil)) rfl)
      (pss_cons (ps_fld (pv 0) (pe_call (ok_firsts_of T) (hr.mono (by omega)) rfl T.d_firsts_of.g T.d_firsts_of.F.kp T.d_firsts_of.b .nil pass0 (pa_cons (pv 2) pa_nil)) rfl)
      (pss_cons (ps_fld (pv 0) (pv 3) rfl)
      (pss_one (ps_fld (pv 0) pe_dnewT rfl)))))))))), ?_⟩
    have noT : ∀ fs, ¬ tupO (.ins T.CS dx fs) := fun fs => id
    have tr : ∀ H1, But1 x H H1 → SameT H H1 := fun H1 b => b.sameT hx (noT _)
    -- self.nodes, self.others
    refine ⟨_, rfl, va, F, rfl, ha, hF, fun H1 n1 s1 e1 => ⟨_, rfl, x, T.CS, dx, [], rfl, s1 _ _ hx, T.S_cl, T.n_nodes, by show 0 < 1000; omega, ?_⟩⟩
    have nx1 : n1 ≠ x := ne_of e1 (s1 _ _ hx) (by intro z; cases z)
    have b1 : But1 x H (upd H1 x (.ins T.CS dx (putF "nodes" (.ref n1) []))) := (but_of s1).trans but_set
    have x1 : (upd H1 x (.ins T.CS dx (putF "nodes" (.ref n1) []))) x = some (.ins T.CS dx (putF "nodes" (.ref n1) [])) := upd_same
    have e1 : (upd H1 x (.ins T.CS dx (putF "nodes" (.ref n1) []))) n1 = some (.lst (isV (pow (numb 0 F)))) := by rw [upd_ne nx1]; exact e1
    generalize upd H1 x (.ins T.CS dx (putF "nodes" (.ref n1) [])) = H2 at b1 x1 e1 ⊢
    refine ⟨_, rfl, vb, G, rfl, dp_sameT (tr _ b1) (noList_enc _) hb, hG, fun H3 n2 s3 e2 => ⟨_, rfl, x, T.CS, dx, _, rfl, s3 _ _ x1, T.S_cl, T.n_others, by show 1 < 1000; omega, ?_⟩⟩
    have nx2 : n2 ≠ x := ne_of e2 (s3 _ _ x1) (by intro z; cases z)
    have b2 : But1 x H2 (upd H3 x (.ins T.CS dx (putF "others" (.ref n2) (putF "nodes" (.ref n1) [])))) := (but_of s3).trans but_set
    have x2 : (upd H3 x (.ins T.CS dx (putF "others" (.ref n2) (putF "nodes" (.ref n1) [])))) x = some (.ins T.CS dx (putF "others" (.ref n2) (putF "nodes" (.ref n1) []))) := upd_same
    have e2 : (upd H3 x (.ins T.CS dx (putF "others" (.ref n2) (putF "nodes" (.ref n1) [])))) n2 = some (.lst (isV (pow (numb 0 G)))) := by rw [upd_ne nx2]; exact e2
    have e1 := b2 _ _ e1 nx1
    have b12 := b1.trans b2
    generalize upd H3 x (.ins T.CS dx (putF "others" (.ref n2) (putF "nodes" (.ref n1) []))) = H4 at b12 x2 e1 e2 ⊢
    -- words = words_of(a); self.words = [words[k] for k in self.nodes]
    refine ⟨_, rfl, va, F, rfl, dp_sameT (tr _ b12) (noList_enc _) ha, hF, fun H5 lw s5 ew => ?_⟩
    have lk1 : (putF "others" (.ref n2) (putF "nodes" (.ref n1) [])).lookup ("nodes" : Str) = some (V.ref n1) := by rw [lookup_putF, if_neg (by decide +kernel), lookup_putF, if_pos rfl]
    refine ⟨_, rfl, x, T.CS, dx, _, _, rfl, s5 _ _ x2, T.S_cl, T.n_nodes, lk1, n1, rfl, ⟨_, .inl (.inl (s5 _ _ e1))⟩, fun D hD => ?_⟩
    have hlen : (pow (numb 0 F)).length = F.size := by rw [pow_len, numb_size]
    have hlen2 : (pow (numb 0 G)).length = G.size := by rw [pow_len, numb_size]
    refine lc_it (walk_list (K := K) (xs := isV (pow (numb 0 F)))) (fun i H' => Same H5 H' ∧ H' D = some (.lst (ssV ((pow F).take i)))) ⟨same_new hD, upd_same⟩ (fun i H' _ h => .inl (.inl (h.1 _ _ (s5 _ _ e1)))) ?_ ?_
    · rintro i z H6 H7 hi ⟨s6, e6⟩ ⟨rfl, hz⟩
      rw [isV_len, hlen] at hi
      have hz : z = V.int (gI (pow (numb 0 F)) i) := Option.some.inj (hz.symm.trans (isV_at (by omega)))
      subst hz
      have hn := numb_range F 0 _ (gI_mem (l := pow (numb 0 F)) (i := i) (by omega))
      obtain ⟨g1, g2⟩ := gath_at F hi
      refine ⟨rfl, _, rfl, _, rfl, lw, _, _, _, rfl, rfl, .inl (.inl (s6 _ _ ew)), at_of (j := (gI (pow (numb 0 F)) i).toNat) (by omega) g1, _, e6, ?_, same_set s6 hD, ?_⟩
      · rw [ssV_len, List.length_take]
        exact sz_lt (by omega)
      · rw [upd_same, take_next g2, ssV_app]
        rfl
    rintro H6 ⟨s6, e3⟩
    rw [isV_len, hlen, ← pow_len F, List.take_length] at e3
    refine ⟨_, rfl, x, T.CS, dx, _, rfl, s6 _ _ (s5 _ _ x2), T.S_cl, T.n_words, by show 2 < 1000; omega, ?_⟩
    have nx3 : D ≠ x := ne_of e3 (s6 _ _ (s5 _ _ x2)) (by intro z; cases z)
    have b3 : But1 x H4 (upd H6 x (.ins T.CS dx (putF "words" (.ref D) (putF "others" (.ref n2) (putF "nodes" (.ref n1) []))))) := (but_of (s5.trans s6)).trans but_set
    have x3 : (upd H6 x (.ins T.CS dx (putF "words" (.ref D) (putF "others" (.ref n2) (putF "nodes" (.ref n1) []))))) x = some (.ins T.CS dx (putF "words" (.ref D) (putF "others" (.ref n2) (putF "nodes" (.ref n1) [])))) := upd_same
    have e3 : (upd H6 x (.ins T.CS dx (putF "words" (.ref D) (putF "others" (.ref n2) (putF "nodes" (.ref n1) []))))) D = some (.lst (ssV (pow F))) := by rw [upd_ne nx3]; exact e3
    have e2 := b3 _ _ e2 nx2
    have b13 := b12.trans b3
    generalize upd H6 x (.ins T.CS dx (putF "words" (.ref D) (putF "others" (.ref n2) (putF "nodes" (.ref n1) [])))) = H7 at b13 x3 e2 e3 ⊢
    -- words = words_of(b); self.words_there = ..
    refine ⟨_, rfl, vb, G, rfl, dp_sameT (tr _ b13) (noList_enc _) hb, hG, fun H8 lw2 s8 ew2 => ?_⟩
    have lk2 : (putF "words" (.ref D) (putF "others" (.ref n2) (putF "nodes" (.ref n1) []))).lookup ("others" : Str) = some (V.ref n2) := by rw [lookup_putF, if_neg (by decide +kernel), lookup_putF, if_pos rfl]
    refine ⟨_, rfl, x, T.CS, dx, _, _, rfl, s8 _ _ x3, T.S_cl, T.n_others, lk2, n2, rfl, ⟨_, .inl (.inl (s8 _ _ e2))⟩, fun D2 hD2 => ?_⟩
    refine lc_it (walk_list (K := K) (xs := isV (pow (numb 0 G)))) (fun i H' => Same H8 H' ∧ H' D2 = some (.lst (ssV ((pow G).take i)))) ⟨same_new hD2, upd_same⟩ (fun i H' _ h => .inl (.inl (h.1 _ _ (s8 _ _ e2)))) ?_ ?_
    · rintro i z H9 H10 hi ⟨s9, e9⟩ ⟨rfl, hz⟩
      rw [isV_len, hlen2] at hi
      have hz : z = V.int (gI (pow (numb 0 G)) i) := Option.some.inj (hz.symm.trans (isV_at (by omega)))
      subst hz
      have hn := numb_range G 0 _ (gI_mem (l := pow (numb 0 G)) (i := i) (by omega))
      obtain ⟨g1, g2⟩ := gath_at G hi
      refine ⟨rfl, _, rfl, _, rfl, lw2, _, _, _, rfl, rfl, .inl (.inl (s9 _ _ ew2)), at_of (j := (gI (pow (numb 0 G)) i).toNat) (by omega) g1, _, e9, ?_, same_set s9 hD2, ?_⟩
      · rw [ssV_len, List.length_take]
        exact sz_lt (by omega)
      · rw [upd_same, take_next g2, ssV_app]
        rfl
    rintro H9 ⟨s9, e4⟩
    rw [isV_len, hlen2, ← pow_len G, List.take_length] at e4
    refine ⟨_, rfl, x, T.CS, dx, _, rfl, s9 _ _ (s8 _ _ x3), T.S_cl, T.n_words_there, by show 3 < 1000; omega, ?_⟩
    have nx4 : D2 ≠ x := ne_of e4 (s9 _ _ (s8 _ _ x3)) (by intro z; cases z)
    generalize hfs4 : putF "words_there" (V.ref D2) (putF "words" (.ref D) (putF "others" (.ref n2) (putF "nodes" (.ref n1) []))) = fs4
    have b4 : But1 x H7 (upd H9 x (.ins T.CS dx fs4)) := (but_of (s8.trans s9)).trans but_set
    have x4 : (upd H9 x (.ins T.CS dx fs4)) x = some (.ins T.CS dx fs4) := upd_same
    have e4 : (upd H9 x (.ins T.CS dx fs4)) D2 = some (.lst (ssV (pow G))) := by rw [upd_ne nx4]; exact e4
    have e3 := b4 _ _ e3 nx3
    have b14 := b13.trans b4
    have l4 : fs4.length ≤ 4 := by rw [← hfs4]; show 4 ≤ 4; omega
    generalize upd H9 x (.ins T.CS dx fs4) = H10 at b14 x4 e3 e4 ⊢
    -- self.firsts, self.firsts_there
    refine ⟨_, rfl, va, F, rfl, dp_sameT (tr _ b14) (noList_enc _) ha, hF, fun H11 f1 s11 e5 => ⟨_, rfl, x, T.CS, dx, _, rfl, s11 _ _ x4, T.S_cl, T.n_firsts, by omega, ?_⟩⟩
    have nx5 : f1 ≠ x := ne_of e5 (s11 _ _ x4) (by intro z; cases z)
    have l5 : (putF "firsts" (V.ref f1) fs4).length ≤ 5 := Nat.le_trans (length_putF _ _ _) (by omega)
    generalize hfs5 : putF "firsts" (V.ref f1) fs4 = fs5 at l5
    have b5 : But1 x H10 (upd H11 x (.ins T.CS dx fs5)) := (but_of s11).trans but_set
    have x5 : (upd H11 x (.ins T.CS dx fs5)) x = some (.ins T.CS dx fs5) := upd_same
    have e5 : (upd H11 x (.ins T.CS dx fs5)) f1 = some (.lst (isV (pow (leF 0 F)))) := by rw [upd_ne nx5]; exact e5
    have e3 := b5 _ _ e3 nx3
    have e4 := b5 _ _ e4 nx4
    have b15 := b14.trans b5
    generalize upd H11 x (.ins T.CS dx fs5) = H12 at b15 x5 e3 e4 e5 ⊢
    refine ⟨_, rfl, vb, G, rfl, dp_sameT (tr _ b15) (noList_enc _) hb, hG, fun H13 f2 s13 e6 => ⟨_, rfl, x, T.CS, dx, _, rfl, s13 _ _ x5, T.S_cl, T.n_firsts_there, by omega, ?_⟩⟩
    have nx6 : f2 ≠ x := ne_of e6 (s13 _ _ x5) (by intro z; cases z)
    have l6 : (putF "firsts_there" (V.ref f2) fs5).length ≤ 6 := Nat.le_trans (length_putF _ _ _) (by omega)
    generalize hfs6 : putF "firsts_there" (V.ref f2) fs5 = fs6 at l6
    have b6 : But1 x H12 (upd H13 x (.ins T.CS dx fs6)) := (but_of s13).trans but_set
    have x6 : (upd H13 x (.ins T.CS dx fs6)) x = some (.ins T.CS dx fs6) := upd_same
    have e6 : (upd H13 x (.ins T.CS dx fs6)) f2 = some (.lst (isV (pow (leF 0 G)))) := by rw [upd_ne nx6]; exact e6
    have e3 := b6 _ _ e3 nx3
    have e4 := b6 _ _ e4 nx4
    have e5 := b6 _ _ e5 nx5
    have b16 := b15.trans b6
    generalize upd H13 x (.ins T.CS dx fs6) = H14 at b16 x6 e3 e4 e5 e6 ⊢
    -- self.prices = prices; self.known = {}
    refine ⟨_, rfl, _, rfl, x, T.CS, dx, _, rfl, x6, T.S_cl, T.n_prices, by omega, ?_⟩
    have l7 : (putF "prices" vp fs6).length ≤ 7 := Nat.le_trans (length_putF _ _ _) (by omega)
    generalize hfs7 : putF "prices" vp fs6 = fs7 at l7
    intro kd nkd
    have nkx : kd ≠ x := fun e => by rw [e, upd_same] at nkd; cases nkd
    refine ⟨_, rfl, x, T.CS, dx, fs7, rfl, by rw [upd_ne (Ne.symm nkx), upd_same], T.S_cl, T.n_known, by omega, ?_⟩
    have nk14 : H14 kd = none := by rw [upd_ne nkx] at nkd; exact nkd
    have nk0 : H kd = none := by
      cases z : H kd with
      | none => rfl
      | some o =>
        have := b16 _ _ z nkx
        rw [nk14] at this
        cases this
    have b7 : But1 x H14 (upd (upd (upd H14 x (.ins T.CS dx fs7)) kd (.dT [])) x (.ins T.CS dx (putF "known" (.ref kd) fs7))) := fun b o h p => by
      rw [upd_ne p, upd_ne (ne_of_none h nk14), upd_ne p]
      exact h
    have b17 := b16.trans b7
    refine q _ kd ⟨⟨dx, .ref n1, .ref n2, D, D2, f1, f2, vp, ?_, b7 _ _ e3 nx3, b7 _ _ e4 nx4, b7 _ _ e5 nx5, b7 _ _ e6 nx6, dp_sameT (tr _ b17) (noList_pr _ _ _ _) hp⟩, [], ?_, knownOk_nil⟩ b17 nk0
    · rw [upd_same, ← hfs7, ← hfs6, ← hfs5, ← hfs4]
      rfl
    · rw [upd_ne nkx, upd_same]
end
end K14
set_option maxRecDepth 100000
set_option maxHeartbeats 4000000
namespace K14
open PySem PySem.Spec PyProof.Rows L2
open Fo
/-- what is known of distances, at kd -/
def KnAt (H : Hp) (kd : Addr) (F G : Fo Str) (d m c : Int) (T : List (Str × Str × Int)) : Prop := ∃ kvs, H kd = some (.dT kvs) ∧ KnownOk (pow F) (pow (leF 0 F)) (pow G) (pow (leF 0 G)) (prOf d m c T) kvs
section
variable {K : PySem.W.Frag} {CS : Addr} {H H' : Hp} {x kd : Addr} {F G : Fo Str} {d m c : Int} {T : List (Str × Str × Int)}
theorem StAt.but (h : StAt K CS H x kd F G d m c T) (b : But1 kd H H') (k : KnAt H' kd F G d m c T) : StAt K CS H' x kd F G d m c T := by
  obtain ⟨⟨dx, n1, n2, w1, w2, f1, f2, vp, e0, e1, e2, e3, e4, hp⟩, kvs, ek, _⟩ := h
  refine ⟨⟨dx, n1, n2, w1, w2, f1, f2, vp, b _ _ e0 (ne_of e0 ek (by intro z; cases z)), b _ _ e1 (ne_of e1 ek (by intro z; cases z)), b _ _ e2 (ne_of e2 ek (by intro z; cases z)), b _ _ e3 (ne_of e3 ek (by intro z; cases z)), b _ _ e4 (ne_of e4 ek (by intro z; cases z)), dp_sameT (b.sameT ek id) (noList_pr _ _ _ _) hp⟩, k⟩
theorem StAt.same (h : StAt K CS H x kd F G d m c T) (b : Same H H') : StAt K CS H' x kd F G d m c T := by
  obtain ⟨kvs, ek, ok⟩ := h.kn
  exact h.but (but_of b) ⟨kvs, b _ _ ek, ok⟩
end
theorem ssV_at {l : List Str} {i : Nat} {s : Str} (h : l[i]? = some s) : (ssV l)[i]? = some (.str s) := by
  unfold ssV
  rw [List.getElem?_map, h]
  rfl
theorem isV_at2 {l : List Int} {i : Nat} {s : Int} (h : l[i]? = some s) : (isV l)[i]? = some (.int s) := by
  unfold isV
  rw [List.getElem?_map, h]
  rfl
/-- the key's tuple -/
def keyV (o n o' n' : Nat) : List V := [.int (o : Int), .int ((o : Int) + n - 1), .int (o' : Int), .int ((o' : Int) + n' - 1)]
section
variable {P : Program} {w : World} {K : PySem.W.Frag} {mg : Str → Option Value} {base : Heap}
theorem scStretcheswhole : FnScope ["self"] ["self"] (defScope (inClass (topS 33) 1)) := ⟨rfl, rfl, rfl, by decide +kernel, rfl, by decide +kernel, by decide +kernel⟩
def spWhole (K : PySem.W.Frag) (CS : Addr) : Sp := fun vs H Q _ => ∃ x kd F G d m c T, vs = [.ref x] ∧ StAt K CS H x kd F G d m c T ∧ ∀ H' k, Same H H' → H' k = some (.tup (keyV 0 F.size 0 G.size)) → Q (.ref k) H'
theorem ok_S_whole (T : Top P K mg) : FnOk P w K mg base CX0 1 T.m_whole.f T.m_whole.fd ["self"] (spWhole K T.CS) := by
  refine T.m_whole.F.ok scStretcheswhole (fun vs H Q E h => ?_) (fun cdv A outer s H vs Q E hr h => ?_)
  · obtain ⟨x, kd, F, G, d, m, c, T, rfl, _⟩ := h
    rfl
  · obtain ⟨x, kd, F, G, d, m, c, Tb, rfl, hs, q⟩ := h
    refine ⟨_, pss_one (ps_ret (pe_tup (pa_cons (pe_int) (pa_cons (pe_op op_sub (pe_callB call_len_seq rfl T.z_len PySem.boot_len (pa_cons (pe_fld (pv 0) rfl) pa_nil)) (pe_int)) (pa_cons (pe_int) (pa_cons (pe_op op_sub (pe_callB call_len_seq rfl T.z_len PySem.boot_len (pa_cons (pe_fld (pv 0) rfl) pa_nil)) (pe_int)) pa_nil)))))), ?_⟩
    obtain ⟨dx, n1, n2, w1, w2, f1, f2, vp, e0, e1, e2, e3, e4, hp⟩ := hs.at_
    refine ⟨_, rfl, x, T.CS, dx, _, _, rfl, e0, T.S_cl, T.n_words, stF_words _ _ _ _ _ _ _ _, w1, _, rfl, .inl (.inl (.inl e1)), _, _, rfl, rfl, _, rfl, x, T.CS, dx, _, _, rfl, e0, T.S_cl, T.n_words_there, stF_words2 _ _ _ _ _ _ _ _, w2, _, rfl, .inl (.inl (.inl e2)), _, _, rfl, rfl, by show 4 ≤ sizeLine; decide, fun k nk => ?_⟩
    refine q _ k (same_new nk) ?_
    rw [upd_same, ssV_len, ssV_len, pow_len, pow_len]
    unfold keyV
    simp
theorem scStretcheschange : FnScope ["self", "high", "end"] ["self", "high", "end"] (defScope (inClass (topS 33) 2)) := ⟨rfl, rfl, rfl, by decide +kernel, rfl, by decide +kernel, by decide +kernel⟩
def spChange (K : PySem.W.Frag) (CS : Addr) : Sp := fun vs H Q _ => ∃ x kd F G d m c T, ∃ i j : Nat, ∃ wd ot, vs = [.ref x, .int (i : Int), .int (j : Int)] ∧ StAt K CS H x kd F G d m c T ∧ (pow F)[i]? = some wd ∧ (pow G)[j]? = some ot ∧ Q (.int (chOf c T wd ot)) H
theorem ok_S_change (T : Top P K mg) : FnOk P w K mg base CX0 2 T.m_change.f T.m_change.fd ["self", "high", "end"] (spChange K T.CS) := by
  refine T.m_change.F.ok scStretcheschange (fun vs H Q E h => ?_) (fun cdv A outer s H vs Q E hr h => ?_)
  · obtain ⟨x, kd, F, G, d, m, c, T, i, j, wd, ot, rfl, _⟩ := h
    rfl
  · obtain ⟨x, kd, F, G, d, m, c, Tb, i, j, wd, ot, rfl, hs, h1, h2, q⟩ := h
    refine ⟨_, pss_one (ps_ret (pe_call (ok_price_between T) (hr.mono (by omega)) rfl T.d_price_between.g T.d_price_between.F.kp T.d_price_between.b .nil pass0 (pa_cons (pe_fld (pv 0) rfl) (pa_cons (pe_ix ix_list (pe_fld (pv 0) rfl) (pv 1) (fun _ _ => rfl)) (pa_cons (pe_ix ix_list (pe_fld (pv 0) rfl) (pv 2) (fun _ _ => rfl)) pa_nil))))), ?_⟩
    obtain ⟨dx, n1, n2, w1, w2, f1, f2, vp, e0, e1, e2, e3, e4, hp⟩ := hs.at_
    refine ⟨_, rfl, x, T.CS, dx, _, _, rfl, e0, T.S_cl, T.n_prices, stF_prices _ _ _ _ _ _ _ _, _, rfl, x, T.CS, dx, _, _, rfl, e0, T.S_cl, T.n_words, stF_words _ _ _ _ _ _ _ _, _, rfl, w1, _, _, _, rfl, rfl, .inl (.inl e1), atI_nat (ssV_at h1), _, rfl, x, T.CS, dx, _, _, rfl, e0, T.S_cl, T.n_words_there, stF_words2 _ _ _ _ _ _ _ _, _, rfl, w2, _, _, _, rfl, rfl, .inl (.inl e2), atI_nat (ssV_at h2), vp, d, m, c, Tb, wd, ot, rfl, hp, q⟩
theorem scStretchesparts : FnScope ["self", "key", "low", "high", "start", "end", "first", "there"] ["self", "key"] (defScope (inClass (topS 33) 3)) := ⟨rfl, rfl, rfl, by decide +kernel, rfl, by decide +kernel, by decide +kernel⟩
def spParts (K : PySem.W.Frag) (CS : Addr) : Sp := fun vs H Q _ => ∃ x kd F G d m c T k o r wd ch o' s v e, vs = [.ref x, .ref k] ∧ StAt K CS H x kd F G d m c T ∧ Seg (pow F) (pow (leF 0 F)) o (snoc r wd ch) ∧ Seg (pow G) (pow (leF 0 G)) o' (snoc s v e) ∧ H k = some (.tup (keyV o (snoc r wd ch).size o' (snoc s v e).size)) ∧
  ∀ H' t k1 k2, Same H H' → H' t = some (.tup [.ref k1, .ref k2]) → H' k1 = some (.tup (keyV o r.size o' s.size)) → H' k2 = some (.tup (keyV (o + r.size) ch.size (o' + s.size) e.size)) → Q (.ref t) H'
theorem ok_S_parts (T : Top P K mg) : FnOk P w K mg base CX0 1 T.m_parts.f T.m_parts.fd ["self", "key"] (spParts K T.CS) := by
  refine T.m_parts.F.ok scStretchesparts (fun vs H Q E h => ?_) (fun cdv A outer s H vs Q E hr h => ?_)
  · obtain ⟨x, kd, F, G, d, m, c, T, k, o, r, wd, ch, o', s, v, e, rfl, _⟩ := h
    rfl
  · obtain ⟨x, kd, F, G, d, m, c, Tb, k, o, r, wd, ch, o', s, v, e, rfl, hs, s1, s2, hk, q⟩ := h
    refine ⟨_, pss_cons (ps_asg (pv 1) (pg_tup rfl (pgs_cons (pg_name (i := 2) scStretchesparts.nd rfl (.inl rfl)) (pgs_cons (pg_name (i := 3) scStretchesparts.nd rfl (.inl rfl)) (pgs_cons (pg_name (i := 4) scStretchesparts.nd rfl (.inl rfl)) (pgs_cons (pg_name (i := 5) scStretchesparts.nd rfl (.inl rfl)) (pgs_nil)))))))
      (pss_cons (ps_set (i := 6) scStretchesparts.nd rfl (.inl rfl) (pe_ix ix_list (pe_fld (pv 0) rfl) (pv 3) (fun _ _ => rfl)))
      (pss_cons (ps_set (i := 7) scStretchesparts.nd rfl (.inl rfl) (pe_ix ix_list (pe_fld (pv 0) rfl) (pv 5) (fun _ _ => rfl)))
      (pss_one (ps_ret (pe_tup (pa_cons (pe_tup (pa_cons (pv 2) (pa_cons (pe_op op_sub (pv 6) (pe_int)) (pa_cons (pv 4) (pa_cons (pe_op op_sub (pv 7) (pe_int)) pa_nil))))) (pa_cons (pe_tup (pa_cons (pv 6) (pa_cons (pe_op op_sub (pv 3) (pe_int)) (pa_cons (pv 7) (pa_cons (pe_op op_sub (pv 5) (pe_int)) pa_nil))))) pa_nil))))))), ?_⟩
    obtain ⟨dx, n1, n2, w1, w2, f1, f2, vp, e0, e1, e2, e3, e4, hp⟩ := hs.at_
    have z1 : (o : Int) + (snoc r wd ch).size - 1 = ((o + r.size + ch.size : Nat) : Int) := by rw [size_snoc]; omega
    have z2 : (o' : Int) + (snoc s v e).size - 1 = ((o' + s.size + e.size : Nat) : Int) := by rw [size_snoc]; omega
    unfold keyV at hk
    rw [z1, z2] at hk
    refine ⟨_, rfl, k, _, rfl, .inl (.inl hk), rfl, _, _, rfl, _, _, rfl, _, _, rfl, _, _, rfl, rfl, ?_⟩
    refine ⟨_, rfl, x, T.CS, dx, _, _, rfl, e0, T.S_cl, T.n_firsts, stF_firsts _ _ _ _ _ _ _ _, _, rfl, f1, _, _, _, rfl, rfl, .inl (.inl e3), atI_nat (isV_at2 s1.leaf), ?_⟩
    refine ⟨_, rfl, x, T.CS, dx, _, _, rfl, e0, T.S_cl, T.n_firsts_there, stF_firsts2 _ _ _ _ _ _ _ _, _, rfl, f2, _, _, _, rfl, rfl, .inl (.inl e4), atI_nat (isV_at2 s2.leaf), ?_⟩
    refine ⟨_, rfl, _, rfl, _, _, rfl, rfl, _, rfl, _, rfl, _, _, rfl, rfl, by show 4 ≤ sizeLine; decide, fun k1 nk1 => ?_⟩
    refine ⟨_, rfl, _, rfl, _, _, rfl, rfl, _, rfl, _, rfl, _, _, rfl, rfl, by show 4 ≤ sizeLine; decide, fun k2 nk2 => ⟨by show 2 ≤ sizeLine; decide, fun t nt => ?_⟩⟩
    have q1 := same_new nk1 (o := .tup [.int (o : Int), .int (((o + r.size : Nat) : Int) - 1), .int (o' : Int), .int (((o' + s.size : Nat) : Int) - 1)])
    refine q _ t k1 k2 ((same_new nk1).trans ((same_new nk2).trans (same_new nt))) upd_same ?_ ?_
    · refine (same_new nt) _ _ ((same_new nk2) _ _ ?_)
      rw [upd_same]
      unfold keyV
      simp
    · refine (same_new nt) _ _ ?_
      rw [upd_same]
      unfold keyV
      simp
end
end K14
set_option maxRecDepth 100000
set_option maxHeartbeats 4000000
namespace K14
open PySem PySem.Spec PyProof.Rows L2
open Fo
/-! ### the ways -/
def way0 : Fo Str → Fo Str → List Int
  | .nil, .nil => [0]
  | _, _ => []
def way1 (p : Pr Str) : Fo Str → Fo Str → List Int
  | .snoc r w c, G => [dist p (app r c) G + p.drop]
  | .nil, _ => []
def way2 (p : Pr Str) : Fo Str → Fo Str → List Int
  | F, .snoc s v e => [dist p F (app s e) + p.more]
  | _, .nil => []
def way3 (p : Pr Str) : Fo Str → Fo Str → List Int
  | .snoc r w c, .snoc s v e => [dist p r s + dist p c e + p.ch w v]
  | _, _ => []
theorem ways_min (p : Pr Str) : ∀ F G : Fo Str, dist p F G ∈ way0 F G ++ way1 p F G ++ way2 p F G ++ way3 p F G ∧ ∀ y ∈ way0 F G ++ way1 p F G ++ way2 p F G ++ way3 p F G, dist p F G ≤ y
  | .nil, .nil => by
    rw [dist_nn]
    simp [way0, way1, way2, way3]
  | .nil, .snoc s v e => by
    rw [dist_ns]
    simp [way0, way1, way2, way3]
  | .snoc r w c, .nil => by
    rw [dist_sn]
    simp [way0, way1, way2, way3]
  | .snoc r w c, .snoc s v e => by
    rw [dist_ss]
    simp only [way0, way1, way2, way3, List.nil_append, List.cons_append, List.mem_cons, List.not_mem_nil, or_false, forall_eq_or_imp, forall_eq]
    omega
theorem ways_one {F G : Fo Str} (p : Pr Str) : 0 < (way0 F G ++ way1 p F G ++ way2 p F G ++ way3 p F G).length := List.length_pos_of_mem (ways_min p F G).1
theorem way_len (p : Pr Str) : ∀ F G : Fo Str, (way0 F G ++ way1 p F G ++ way2 p F G ++ way3 p F G).length ≤ 4
  | .nil, .nil => by simp [way0, way1, way2, way3]
  | .nil, .snoc s v e => by simp [way0, way1, way2, way3]
  | .snoc r w c, .nil => by simp [way0, way1, way2, way3]
  | .snoc r w c, .snoc s v e => by simp [way0, way1, way2, way3]
theorem min_is {l : List Int} {m z : Int} (h1 : m ∈ l) (h2 : ∀ y ∈ l, m ≤ y) (h3 : z ∈ l) (h4 : ∀ y ∈ l, z ≤ y) : m = z := by
  have := h2 _ h3
  have := h4 _ h1
  omega
section
variable {P : Program} {w : World} {K : PySem.W.Frag} {mg : Str → Option Value} {base : Heap}
theorem scStretchesleast : FnScope ["self", "key", "low", "high", "start", "end", "ways", "part"] ["self", "key"] (defScope (inClass (topS 33) 4)) := ⟨rfl, rfl, rfl, by decide +kernel, rfl, by decide +kernel, by decide +kernel⟩
def spLeast (K : PySem.W.Frag) (CS : Addr) (n : Nat) : Sp := fun vs H Q _ => ∃ x kd F0 G0 d m c T k o F o' G, vs = [.ref x, .ref k] ∧ StAt K CS H x kd F0 G0 d m c T ∧ F0.size < 20 ∧ G0.size < 20 ∧ Seg (pow F0) (pow (leF 0 F0)) o F ∧ Seg (pow G0) (pow (leF 0 G0)) o' G ∧ H k = some (.tup (keyV o F.size o' G.size)) ∧ F.size + G.size < n ∧
  ∀ H', But1 kd H H' → KnAt H' kd F0 G0 d m c T → Q (.int (dist (prOf d m c T) F G)) H'
/-- between two statements: the ways so far -/
def WayAt (H : Hp) (kd D : Addr) (F0 G0 : Fo Str) (d m c : Int) (T : List (Str × Str × Int)) (l : List Int) (H' : Hp) : Prop := But1 kd H H' ∧ KnAt H' kd F0 G0 d m c T ∧ H D = none ∧ H' D = some (.lst (isV l))
theorem WayAt.add {H H1 H2 : Hp} {kd D : Addr} {F0 G0 : Fo Str} {d m c : Int} {T : List (Str × Str × Int)} {l : List Int} {z : Int} (h : WayAt H kd D F0 G0 d m c T l H1) (b : But1 kd H1 H2) (k : KnAt H2 kd F0 G0 d m c T) :
    H2 D = some (.lst (isV l)) ∧ WayAt H kd D F0 G0 d m c T (l ++ [z]) (upd H2 D (.lst (isV l ++ [.int z]))) := by
  obtain ⟨h1, ⟨kvs1, ek1, _⟩, h3, h4⟩ := h
  have nD : D ≠ kd := ne_of h4 ek1 (by intro z; cases z)
  have e2 := b _ _ h4 nD
  refine ⟨e2, fun a o ha hk => ?_, ?_, h3, ?_⟩
  · rw [upd_ne (ne_of_none ha h3)]
    exact b _ _ (h1 _ _ ha hk) hk
  · obtain ⟨kvs, ek, ok⟩ := k
    exact ⟨kvs, by rw [upd_ne (Ne.symm nD)]; exact ek, ok⟩
  · rw [upd_same, isV_app]
    rfl
theorem key_is {a b c d a' b' c' d' : Int} (h1 : a = a') (h2 : b = b') (h3 : c = c') (h4 : d = d') : some (HO.tup [.int a, .int b, .int c, .int d]) = some (HO.tup [.int a', .int b', .int c', .int d']) := by rw [h1, h2, h3, h4]
theorem ok_least_n (T : Top P K mg) : ∀ n, FnOk P w K mg base CX0 (n + 3) T.m_least.f T.m_least.fd ["self", "key"] (spLeast K T.CS n)
  | 0 => by
    have no : ∀ vs H Q E, ¬ spLeast K T.CS 0 vs H Q E := fun vs H Q E h => by
      obtain ⟨x, kd, F0, G0, d, m, c, T, k, o, F, o', G, _, _, _, _, _, _, _, hm, _⟩ := h
      omega
    exact ⟨fun vs H Q E h => absurd h (no vs H Q E), fun A outer s H args us vs Q E _ _ _ _ h => absurd h (no vs H Q E)⟩
  | n + 1 => by
    have G : FnOk P w K mg base CX0 (n + 3) T.m_least.f T.m_least.fd ["self", "key"] (spLeast K T.CS n) := ok_least_n T n
    refine T.m_least.F.ok scStretchesleast (fun vs H Q E h => ?_) (fun cdv A outer s H vs Q E hr h => ?_)
    · obtain ⟨x, kd, F0, G0, d, m, c, T, k, o, F, o', G, rfl, _⟩ := h
      rfl
    · obtain ⟨x, kd, F0, G0, d, m, c, Tb, k, o, F1, o', G1, rfl, hs, z1, z2, s1, s2, hk, hn, q⟩ := h
      refine ⟨_, pss_cons (ps_if (pt_cmp (pc_dnotin (hu_of hr) (pv 1) (pe_fld (pv 0) rfl)))
      (pss_cons (ps_asg (pv 1) (pg_tup rfl (pgs_cons (pg_name (i := 2) scStretchesleast.nd rfl (.inl rfl)) (pgs_cons (pg_name (i := 3) scStretchesleast.nd rfl (.inl rfl)) (pgs_cons (pg_name (i := 4) scStretchesleast.nd rfl (.inl rfl)) (pgs_cons (pg_name (i := 5) scStretchesleast.nd rfl (.inl rfl)) (pgs_nil)))))))
      (Evl.pss_cut (ps_set (i := 6) scStretchesleast.nd rfl (.inl rfl) (pe_ifExp (PW.pt (pw_or (pt_cmpR op_ge (pv 3) (pv 2) (nomark _)) (pw_or1 (pt_cmpR op_ge (pv 5) (pv 4) (nomark _))))) (pe_lst (pa_nil)) (pe_lst (pa_cons (pe_int) pa_nil))))
      (Evl.pss_cut (ps_if (pt_cmpR op_ge (pv 3) (pv 2) (nomark _))
      (pss_one (ps_expr (pe_bm PySem.F.plainAttrs_list PySem.F.slot_list_append PySem.F.type_list_append mt_append (pv 6) (pa_cons (pe_op op_add (pe_meth (pv 0) T.S_cl T.m_least.m G (hr.mono (by omega)) T.m_least.b .nil pass0 (pa_cons (pe_tup (pa_cons (pv 2) (pa_cons (pe_op op_sub (pv 3) (pe_int)) (pa_cons (pv 4) (pa_cons (pv 5) pa_nil))))) pa_nil)) (pe_ix ix_tup (pe_fld (pv 0) rfl) (pe_int) (fun _ _ => rfl))) pa_nil))))
      (pss_nil))
      (Evl.pss_cut (ps_if (pt_cmpR op_ge (pv 5) (pv 4) (nomark _))
      (pss_one (ps_expr (pe_bm PySem.F.plainAttrs_list PySem.F.slot_list_append PySem.F.type_list_append mt_append (pv 6) (pa_cons (pe_op op_add (pe_meth (pv 0) T.S_cl T.m_least.m G (hr.mono (by omega)) T.m_least.b .nil pass0 (pa_cons (pe_tup (pa_cons (pv 2) (pa_cons (pv 3) (pa_cons (pv 4) (pa_cons (pe_op op_sub (pv 5) (pe_int)) pa_nil))))) pa_nil)) (pe_ix ix_tup (pe_fld (pv 0) rfl) (pe_int) (fun _ _ => rfl))) pa_nil))))
      (pss_nil))
      (Evl.pss_cut (ps_if (PW.pt (pw_and (pt_cmpR op_ge (pv 3) (pv 2) (nomark _)) (pw_and1 (pt_cmpR op_ge (pv 5) (pv 4) (nomark _)))))
      (pss_one (ps_expr (pe_bm PySem.F.plainAttrs_list PySem.F.slot_list_append PySem.F.type_list_append mt_append (pv 6) (pa_cons (pe_op op_add (pe_callB (cr_sum rfl) rfl T.z_sum (by decide +kernel) (pa_cons (pe_lc (own := [("part", 7)]) (g := gName 7) (tt := tYes) rfl scStretchesleast.nd (pi_tup (pe_meth (pv 0) T.S_cl T.m_parts.m (ok_S_parts T) (hr.mono (by omega)) T.m_parts.b .nil pass0 (pa_cons (pv 1) pa_nil))) (blkOk_by (own := [("part", 7)]) (N := ["self", "key", "low", "high", "start", "end", "ways", "part"]) (sc := defScope (inClass (topS 33) 4)) (by decide +kernel)) (fun _ _ _ _ _ => pg_name (i := 7) scStretchesleast.nd rfl (.inl rfl)) (fun _ _ _ _ _ => pts_nil) (fun _ _ _ _ _ => pe_meth (pv 0) T.S_cl T.m_least.m G (hr.mono (by omega)) T.m_least.b .nil pass0 (pa_cons (pv 7) pa_nil))) pa_nil)) (pe_meth (pv 0) T.S_cl T.m_change.m (ok_S_change T) (hr.mono (by omega)) T.m_change.b .nil pass0 (pa_cons (pv 3) (pa_cons (pv 5) pa_nil)))) pa_nil))))
      (pss_nil))
      (pss_one (ps_dput (hu_of hr) (pe_fld (pv 0) rfl) (pv 1) (pe_callB (cr_min rfl) rfl T.z_min (by decide +kernel) (pa_cons (pv 6) pa_nil)) rfl)))))))
      (pss_nil))
      (pss_one (ps_ret (pe_dget (hu_of hr) (pe_fld (pv 0) rfl) (pv 1) (fun _ _ => rfl)))), ?_⟩
      obtain ⟨dx, n1, n2, w1, w2, f1, f2, vp, e0, e1, e2, e3, e4, hp⟩ := hs.at_
      obtain ⟨kvs, ek, kok⟩ := hs.kn
      have l1 := s1.le.1
      have l2 := s2.le.1
      rw [pow_len] at l1 l2
      have nxk : x ≠ kd := ne_of e0 ek (by intro z; cases z)
      obtain ⟨ap, tp, txs, rfl, hSp, _, _⟩ := dp_prices hp
      refine ⟨_, rfl, _, rfl, x, T.CS, dx, _, _, rfl, e0, T.S_cl, T.n_known, stF_known _ _ _ _ _ _ _ _, kd, _, rfl, DGet.t (k := keyO o F1.size o' G1.size) ek hk, _, rfl, ?_⟩
      have nkd : k ≠ kd := ne_of hk ek (by intro z; cases z)
      cases ev : valV kvs (keyO o F1.size o' G1.size) with
      | some v =>
        refine iteF ?_
        have evv := kok.ok o F1 o' G1 v s1 s2 ev
        refine ⟨_, rfl, x, T.CS, dx, _, _, rfl, e0, T.S_cl, T.n_known, stF_known _ _ _ _ _ _ _ _, _, rfl, kd, v, rfl, ?_, ?_⟩
        · rw [← ev]
          exact DGet.t ek hk
        · rw [evv]
          exact q H (fun c o h _ => h) hs.kn
      | none =>
        refine iteT ?_
        have z3 : 2 ^ 24 = sizeLine := rfl
        refine ⟨_, rfl, k, _, rfl, .inl (.inl hk), rfl, _, _, rfl, _, _, rfl, _, _, rfl, _, _, rfl, rfl, ?_⟩
        refine ⟨fun σ H' => ∃ D, σ = [some (.ref x), some (.ref k), some (.int (o : Int)), some (.int ((o : Int) + F1.size - 1)), some (.int (o' : Int)), some (.int ((o' : Int) + G1.size - 1)), some (.ref D), none] ∧ WayAt H kd D F0 G0 d m c Tb (way0 F1 G1) H', ?_, ?_⟩
        · have fin : ∀ (l : List Int) (D : Addr) , H D = none → way0 F1 G1 = l → WayAt H kd D F0 G0 d m c Tb (way0 F1 G1) (upd H D (.lst (isV l))) := fun l D nD e =>
            ⟨but_of (same_new nD), ⟨kvs, by rw [upd_ne (ne_of_none ek nD)]; exact ek, kok⟩, nD, by rw [upd_same, e]⟩
          refine ⟨_, rfl, _, rfl, _, _, rfl, rfl, _, rfl, ?_⟩
          cases F1 with
          | snoc r w c =>
            rw [decide_eq_true (show (o : Int) ≤ (o : Int) + (snoc r w c).size - 1 by rw [size_snoc]; omega)]
            refine iteT (iteT ⟨Nat.zero_le _, fun D nD => ⟨D, rfl, fin [] D nD rfl⟩⟩)
          | nil =>
            rw [decide_eq_false (show ¬ (o : Int) ≤ (o : Int) + (nil : Fo Str).size - 1 by rw [size_nil]; omega)]
            refine iteF ⟨_, rfl, _, rfl, _, _, rfl, rfl, _, rfl, ?_⟩
            cases G1 with
            | snoc r w c =>
              rw [decide_eq_true (show (o' : Int) ≤ (o' : Int) + (snoc r w c).size - 1 by rw [size_snoc]; omega)]
              exact iteT ⟨Nat.zero_le _, fun D nD => ⟨D, rfl, fin [] D nD rfl⟩⟩
            | nil =>
              rw [decide_eq_false (show ¬ (o' : Int) ≤ (o' : Int) + (nil : Fo Str).size - 1 by rw [size_nil]; omega)]
              exact iteF ⟨by show 1 ≤ sizeLine; decide, fun D nD => ⟨D, rfl, fin [0] D nD rfl⟩⟩
        rintro σ H1 ⟨D, rfl, h1⟩
        refine ⟨fun σ H' => σ = [some (.ref x), some (.ref k), some (.int (o : Int)), some (.int ((o : Int) + F1.size - 1)), some (.int (o' : Int)), some (.int ((o' : Int) + G1.size - 1)), some (.ref D), none] ∧ WayAt H kd D F0 G0 d m c Tb (way0 F1 G1 ++ way1 (prOf d m c Tb) F1 G1) H', ?_, ?_⟩
        · refine ⟨_, rfl, _, rfl, _, _, rfl, rfl, _, rfl, ?_⟩
          cases F1 with
          | nil =>
            rw [decide_eq_false (show ¬ (o : Int) ≤ (o : Int) + (nil : Fo Str).size - 1 by rw [size_nil]; omega)]
            exact ⟨rfl, by rw [show way1 (prOf d m c Tb) nil G1 = [] from rfl, List.append_nil]; exact h1⟩
          | snoc r wd ch =>
            rw [decide_eq_true (show (o : Int) ≤ (o : Int) + (snoc r wd ch).size - 1 by rw [size_snoc]; omega)]
            have h10 := h1.1 _ _ e0 nxk
            refine ⟨_, rfl, .inl ⟨rfl, _, .inl (.inl h1.2.2.2)⟩, _, rfl, x, dx, _, rfl, h10, stF_least _ _ _ _ _ _ _ _, _, rfl, _, rfl, _, _, rfl, rfl, _, rfl, _, rfl, by show 4 ≤ sizeLine; decide, fun k1 nk1 => ?_⟩
            have bk := but_of (a := kd) (same_new (o := .tup [.int (o : Int), .int ((o : Int) + (snoc r wd ch).size - 1 - 1), .int (o' : Int), .int ((o' : Int) + G1.size - 1)]) nk1)
            refine ⟨x, kd, F0, G0, d, m, c, Tb, k1, o, app r ch, o', G1, rfl, (hs.but h1.1 h1.2.1).same (same_new nk1), z1, z2, s1.front, s2, upd_same.trans (key_is rfl (by rw [size_snoc, size_app]; omega) rfl rfl), by rw [size_snoc] at hn; rw [size_app]; omega, fun H2 b2 kn2 => ?_⟩
            have bb := bk.trans b2
            obtain ⟨eD, wa⟩ := h1.add (z := dist (prOf d m c Tb) (app r ch) G1 + d) bb kn2
            have b02 := h1.1.trans bb
            refine ⟨_, rfl, x, T.CS, dx, _, _, rfl, b02 _ _ e0 nxk, T.S_cl, T.n_prices, stF_prices _ _ _ _ _ _ _ _, ap, _, 0, _, rfl, rfl, sqT_sameT (b02.sameT ek id) hSp, atI_nat (j := 0) rfl, _, _, rfl, rfl, D, _, _, rfl, rfl, eD, ?_, ?_⟩
            · rw [isV_len]
              exact sz_lt (by have := way_len (prOf d m c Tb) (snoc r wd ch) G1; simp only [List.length_append] at this; omega)
            · exact ⟨rfl, wa⟩
        rintro σ H2 ⟨rfl, h2⟩
        refine ⟨fun σ H' => σ = [some (.ref x), some (.ref k), some (.int (o : Int)), some (.int ((o : Int) + F1.size - 1)), some (.int (o' : Int)), some (.int ((o' : Int) + G1.size - 1)), some (.ref D), none] ∧ WayAt H kd D F0 G0 d m c Tb (way0 F1 G1 ++ way1 (prOf d m c Tb) F1 G1 ++ way2 (prOf d m c Tb) F1 G1) H', ?_, ?_⟩
        · refine ⟨_, rfl, _, rfl, _, _, rfl, rfl, _, rfl, ?_⟩
          cases G1 with
          | nil =>
            rw [decide_eq_false (show ¬ (o' : Int) ≤ (o' : Int) + (nil : Fo Str).size - 1 by rw [size_nil]; omega)]
            exact ⟨rfl, by rw [show way2 (prOf d m c Tb) F1 nil = [] by cases F1 <;> rfl, List.append_nil]; exact h2⟩
          | snoc r wd ch =>
            rw [decide_eq_true (show (o' : Int) ≤ (o' : Int) + (snoc r wd ch).size - 1 by rw [size_snoc]; omega)]
            have h10 := h2.1 _ _ e0 nxk
            refine ⟨_, rfl, .inl ⟨rfl, _, .inl (.inl h2.2.2.2)⟩, _, rfl, x, dx, _, rfl, h10, stF_least _ _ _ _ _ _ _ _, _, rfl, _, rfl, _, rfl, _, rfl, _, _, rfl, rfl, by show 4 ≤ sizeLine; decide, fun k1 nk1 => ?_⟩
            have bk := but_of (a := kd) (same_new (o := .tup [.int (o : Int), .int ((o : Int) + F1.size - 1), .int (o' : Int), .int ((o' : Int) + (snoc r wd ch).size - 1 - 1)]) nk1)
            refine ⟨x, kd, F0, G0, d, m, c, Tb, k1, o, F1, o', app r ch, rfl, (hs.but h2.1 h2.2.1).same (same_new nk1), z1, z2, s1, s2.front, upd_same.trans (key_is rfl rfl rfl (by rw [size_snoc, size_app]; omega)), by rw [size_snoc] at hn; rw [size_app]; omega, fun H3 b2 kn2 => ?_⟩
            have bb := bk.trans b2
            obtain ⟨eD, wa⟩ := h2.add (z := dist (prOf d m c Tb) F1 (app r ch) + m) bb kn2
            have b02 := h2.1.trans bb
            refine ⟨_, rfl, x, T.CS, dx, _, _, rfl, b02 _ _ e0 nxk, T.S_cl, T.n_prices, stF_prices _ _ _ _ _ _ _ _, ap, _, 1, _, rfl, rfl, sqT_sameT (b02.sameT ek id) hSp, atI_nat (j := 1) rfl, _, _, rfl, rfl, D, _, _, rfl, rfl, eD, ?_, ?_⟩
            · rw [isV_len]
              exact sz_lt (by have := way_len (prOf d m c Tb) F1 (snoc r wd ch); simp only [List.length_append] at this ⊢; omega)
            · exact ⟨rfl, wa⟩
        rintro σ H3 ⟨rfl, h3⟩
        refine ⟨fun σ H' => ∃ y, σ = [some (.ref x), some (.ref k), some (.int (o : Int)), some (.int ((o : Int) + F1.size - 1)), some (.int (o' : Int)), some (.int ((o' : Int) + G1.size - 1)), some (.ref D), y] ∧ WayAt H kd D F0 G0 d m c Tb (way0 F1 G1 ++ way1 (prOf d m c Tb) F1 G1 ++ way2 (prOf d m c Tb) F1 G1 ++ way3 (prOf d m c Tb) F1 G1) H', ?_, ?_⟩
        · refine ⟨_, rfl, _, rfl, _, _, rfl, rfl, _, rfl, ?_⟩
          cases F1 with
          | nil =>
            rw [decide_eq_false (show ¬ (o : Int) ≤ (o : Int) + (nil : Fo Str).size - 1 by rw [size_nil]; omega)]
            exact ⟨_, rfl, by rw [show way3 (prOf d m c Tb) nil G1 = [] from rfl, List.append_nil]; exact h3⟩
          | snoc r wd ch =>
          rw [decide_eq_true (show (o : Int) ≤ (o : Int) + (snoc r wd ch).size - 1 by rw [size_snoc]; omega)]
          refine iteT ⟨_, rfl, _, rfl, _, _, rfl, rfl, _, rfl, ?_⟩
          cases G1 with
          | nil =>
            rw [decide_eq_false (show ¬ (o' : Int) ≤ (o' : Int) + (nil : Fo Str).size - 1 by rw [size_nil]; omega)]
            exact ⟨_, rfl, by rw [show way3 (prOf d m c Tb) (snoc r wd ch) nil = [] from rfl, List.append_nil]; exact h3⟩
          | snoc s v e =>
          rw [decide_eq_true (show (o' : Int) ≤ (o' : Int) + (snoc s v e).size - 1 by rw [size_snoc]; omega)]
          have h10 := h3.1 _ _ e0 nxk
          have hs3 := hs.but h3.1 h3.2.1
          refine ⟨_, rfl, .inl ⟨rfl, _, .inl (.inl h3.2.2.2)⟩, _, rfl, x, dx, _, rfl, h10, stF_parts _ _ _ _ _ _ _ _, _, rfl, x, kd, F0, G0, d, m, c, Tb, k, o, r, wd, ch, o', s, v, e, rfl, hs3, s1, s2, h3.1 _ _ hk nkd, fun H4 t k1 k2 s4 et ek1 ek2 => ⟨t, rfl, ⟨_, .inl (.inl et)⟩, fun D2 nD2 => ?_⟩⟩
          have kn4 : KnAt H4 kd F0 G0 d m c Tb := (hs3.same s4).kn
          have ntk : t ≠ kd := by
            obtain ⟨kv4, ek4, _⟩ := kn4
            exact ne_of et ek4 (by intro z; cases z)
          have hs4 := hs3.same s4
          have nk1 : k1 ≠ kd := by
            obtain ⟨kv4, ek4, _⟩ := kn4
            exact ne_of ek1 ek4 (by intro z; cases z)
          have nk2 : k2 ≠ kd := by
            obtain ⟨kv4, ek4, _⟩ := kn4
            exact ne_of ek2 ek4 (by intro z; cases z)
          have b4 : But1 kd H H4 := h3.1.trans (but_of s4)
          rw [size_snoc, size_snoc] at hn
          refine lc_it (walk_tup (K := K) (xs := [V.ref k1, V.ref k2])) (fun i H' => But1 kd H4 H' ∧ KnAt H' kd F0 G0 d m c Tb ∧ H' D2 = some (.lst (isV ([dist (prOf d m c Tb) r s, dist (prOf d m c Tb) ch e].take i)))) ⟨but_of (same_new nD2), ((hs3.same s4).same (same_new nD2)).kn, upd_same⟩ (fun i H' _ h => .inl (.inl (h.1 _ _ et ntk))) ?_ ?_
          · rintro i z H6 H5 hi ⟨b5, kn5, e5⟩ ⟨rfl, hz⟩
            have fin : ∀ (H7 : Hp) (l : List Int) (z : Int), But1 kd H5 H7 → KnAt H7 kd F0 G0 d m c Tb → H5 D2 = some (.lst (isV l)) → ∃ acc, H7 D2 = some (.lst acc) ∧ acc.length = l.length ∧ But1 kd H4 (upd H7 D2 (.lst (acc ++ [.int z]))) ∧ KnAt (upd H7 D2 (.lst (acc ++ [.int z]))) kd F0 G0 d m c Tb ∧ (upd H7 D2 (.lst (acc ++ [.int z]))) D2 = some (.lst (isV (l ++ [z]))) := fun H7 l z b7 kn7 el => by
              obtain ⟨kv5, ek5, _⟩ := kn5
              obtain ⟨kv7, ek7, ok7⟩ := kn7
              have nDk : D2 ≠ kd := ne_of el ek5 (by intro z; cases z)
              refine ⟨isV l, b7 _ _ el nDk, isV_len l, fun a o ha hk => ?_, ⟨kv7, by rw [upd_ne (Ne.symm nDk)]; exact ek7, ok7⟩, ?_⟩
              · rw [upd_ne (ne_of_none ha nD2)]
                exact b7 _ _ (b5 _ _ ha hk) hk
              · rw [upd_same, isV_app]
                rfl
            have b45 := b4.trans b5
            match i, hi with
            | 0, _ =>
              have hz : z = .ref k1 := (Option.some.inj hz).symm
              subst hz
              refine ⟨rfl, _, rfl, x, dx, _, rfl, b45 _ _ e0 nxk, stF_least _ _ _ _ _ _ _ _, _, rfl, x, kd, F0, G0, d, m, c, Tb, k1, o, r, o', s, rfl, hs.but b45 kn5, z1, z2, s1.ahead, s2.ahead, b5 _ _ ek1 nk1, by omega, fun H7 b7 kn7 => ?_⟩
              obtain ⟨acc, f1, f2, f3, f4, f5⟩ := fin H7 [] (dist (prOf d m c Tb) r s) b7 kn7 e5
              exact ⟨acc, f1, by rw [f2]; exact sz_lt (by simp), f3, f4, f5⟩
            | 1, _ =>
              have hz : z = .ref k2 := (Option.some.inj hz).symm
              subst hz
              refine ⟨rfl, _, rfl, x, dx, _, rfl, b45 _ _ e0 nxk, stF_least _ _ _ _ _ _ _ _, _, rfl, x, kd, F0, G0, d, m, c, Tb, k2, o + r.size, ch, o' + s.size, e, rfl, hs.but b45 kn5, z1, z2, s1.below, s2.below, b5 _ _ ek2 nk2, by omega, fun H7 b7 kn7 => ?_⟩
              obtain ⟨acc, f1, f2, f3, f4, f5⟩ := fin H7 [dist (prOf d m c Tb) r s] (dist (prOf d m c Tb) ch e) b7 kn7 e5
              exact ⟨acc, f1, by rw [f2]; exact sz_lt (by simp), f3, f4, f5⟩
            | i + 2, hi => 
              simp at hi
              omega
          · rintro H5 ⟨b5, kn5, e5⟩
            have b45 := b4.trans b5
            have b35 : But1 kd H3 H5 := (but_of s4).trans b5
            have q1 : (o : Int) + (snoc r wd ch).size - 1 = ((o + r.size + ch.size : Nat) : Int) := by rw [size_snoc]; omega
            have q2 : (o' : Int) + (snoc s v e).size - 1 = ((o' + s.size + e.size : Nat) : Int) := by rw [size_snoc]; omega
            obtain ⟨eD, wa⟩ := h3.add (z := dist (prOf d m c Tb) r s + dist (prOf d m c Tb) ch e + chOf c Tb wd v) b35 kn5
            refine ⟨D2, _, rfl, .inl (.inl e5), _, rfl, x, dx, _, rfl, b45 _ _ e0 nxk, stF_change _ _ _ _ _ _ _ _, _, rfl, _, rfl, x, kd, F0, G0, d, m, c, Tb, o + r.size + ch.size, o' + s.size + e.size, wd, v, by rw [← q1, ← q2]; rfl, hs.but b45 kn5, s1.word, s2.word, _, _, rfl, rfl, D, _, _, rfl, rfl, eD, ?_, ?_⟩
            · rw [isV_len]
              exact sz_lt (by have := way_len (prOf d m c Tb) (snoc r wd ch) (snoc s v e); simp only [List.length_append] at this ⊢; omega)
            · refine ⟨_, rfl, ?_⟩
              have e3 : [dist (prOf d m c Tb) r s, dist (prOf d m c Tb) ch e].sum = dist (prOf d m c Tb) r s + dist (prOf d m c Tb) ch e := by simp
              have e4 : (List.take [V.ref k1, V.ref k2].length [dist (prOf d m c Tb) r s, dist (prOf d m c Tb) ch e]).sum = dist (prOf d m c Tb) r s + dist (prOf d m c Tb) ch e := e3
              rw [e4]
              exact wa
        rintro σ H4 ⟨y, rfl, b4, ⟨kvs4, ek4, ok4⟩, hD, e5⟩
        have e04 := b4 _ _ e0 (ne_of e0 ek (by intro z; cases z))
        have hk4 := b4 _ _ hk nkd
        refine ⟨_, rfl, D, _, rfl, .inl (.inl e5), ways_one _, fun mm hm1 hm2 => ?_⟩
        have hm := min_is hm1 hm2 (ways_min _ F1 G1).1 (ways_min _ F1 G1).2
        subst hm
        refine ⟨_, rfl, x, T.CS, dx, _, _, rfl, e04, T.S_cl, T.n_known, stF_known _ _ _ _ _ _ _ _, _, rfl, kd, _, rfl, DPut.t (k := keyO o F1.size o' G1.size) ek4 hk4 (by have := ok4.len; omega), ?_⟩
        have okP := ok4.put s1 s2 (by omega) (by omega)
        have b5 : But1 kd H (upd H4 kd (.dT (putK kvs4 (keyO o F1.size o' G1.size) (.int (dist (prOf d m c Tb) F1 G1))))) := b4.trans but_set
        have ek5 : (upd H4 kd (.dT (putK kvs4 (keyO o F1.size o' G1.size) (.int (dist (prOf d m c Tb) F1 G1))))) kd = some (.dT (putK kvs4 (keyO o F1.size o' G1.size) (.int (dist (prOf d m c Tb) F1 G1)))) := upd_same
        generalize upd H4 kd (.dT (putK kvs4 (keyO o F1.size o' G1.size) (.int (dist (prOf d m c Tb) F1 G1)))) = H5 at b5 ek5 ⊢
        refine ⟨_, rfl, x, T.CS, dx, _, _, rfl, b5 _ _ e0 (ne_of e0 ek (by intro z; cases z)), T.S_cl, T.n_known, stF_known _ _ _ _ _ _ _ _, _, rfl, kd, .int (dist (prOf d m c Tb) F1 G1), rfl, ?_, q _ b5 ⟨_, ek5, okP⟩⟩
        have g := DGet.t (k := keyO o F1.size o' G1.size) ek5 (b5 _ _ hk nkd)
        rw [valV_put, if_pos rfl] at g
        exact g
end
end K14
set_option maxRecDepth 100000
set_option maxHeartbeats 4000000
namespace K14
open PySem PySem.Spec PyProof.Rows L2
open Fo
theorem but_new {H H' : Hp} {a : Addr} (b : But1 a H H') (n : H a = none) : Same H H' := fun c o h => b c o h (ne_of_none h n)
section
variable {P : Program} {w : World} {K : PySem.W.Frag} {mg : Str → Option Value} {base : Heap}
theorem ok_S_least (T : Top P K mg) : FnOk P w K mg base CX0 43 T.m_least.f T.m_least.fd ["self", "key"] (spLeast K T.CS 40) := ok_least_n T 40
/-- three things are looked at: two forests, prices -/
structure Three (K : PySem.W.Frag) (H : Hp) (va vb vp : V) (da db dp : PyData) : Prop where
  a : Dp K H va da
  fa : ∃ n, n < 40 ∧ fit da n = true
  b : Dp K H vb db
  fb : ∃ n, n < 40 ∧ fit db n = true
  p : Dp K H vp dp
  fp : ∃ n, fit dp n = true
def LookedAt (K : PySem.W.Frag) (C1 C2 : Addr) (H : Hp) (va vb vp : V) (da db dp : PyData) (E : XK) (ok : Prop) : Prop :=
  (dForest da = true ∧ dForest db = true ∧ dPrices dp = true ∧ ok) ∨
  (dForest da = false ∧ ∀ H' e, Same H H' → H' e = some (.xd [(("value" : Str), va)]) → E (.ref C1) (some e) H') ∨
  (dForest da = true ∧ dForest db = false ∧ ∀ H' e, Same H H' → H' e = some (.xd [(("value" : Str), vb)]) → E (.ref C1) (some e) H') ∨
  (dForest da = true ∧ dForest db = true ∧ dPrices dp = false ∧ ∀ H' e, Same H H' → H' e = some (.xd [(("value" : Str), vp)]) → E (.ref C2) (some e) H')
def spLooked (K : PySem.W.Frag) (CS C1 C2 : Addr) : Sp := fun vs H Q E => ∃ va vb vp da db dp, vs = [va, vb, vp] ∧ Three K H va vb vp da db dp ∧
  LookedAt K C1 C2 H va vb vp da db dp E (∃ F G d m c T, da = enc F ∧ db = enc G ∧ dp = prD d m c T ∧ F.size < 20 ∧ G.size < 20 ∧ ∀ H' x kd, StAt K CS H' x kd F G d m c T → Same H H' → H kd = none → Q (.ref x) H')
theorem sclookedat : FnScope ["a", "b", "prices"] ["a", "b", "prices"] (defScope (topS 35)) := ⟨rfl, rfl, rfl, by decide +kernel, rfl, by decide +kernel, by decide +kernel⟩
theorem ok_looked_at (T : Top P K mg) : FnOk P w K mg base (L2.CX P w) 44 T.d_looked_at.f T.d_looked_at.fd ["a", "b", "prices"] (spLooked K T.CS T.C1 T.C2) := by
  refine T.d_looked_at.F.okX sclookedat (fun vs H Q E h => ?_) (fun cdv A outer s H vs Q E hr h => ?_)
  · obtain ⟨va, vb, vp, da, db, dp, rfl, _⟩ := h
    rfl
  · obtain ⟨va, vb, vp, da, db, dp, rfl, ⟨ha, ⟨na, la, fa⟩, hb, ⟨nb, lb, fb⟩, hp, np, fp⟩, q⟩ := h
    refine ⟨_, pss_cons (ps_expr (pe_call (ok_need_forests T) (hr.mono (by omega)) rfl T.d_need_forests.g T.d_need_forests.F.kp T.d_need_forests.b .nil (passes_call (takes_of rfl rfl rfl rfl) (fun _ _ _ _ h => h)) (pa_cons (pv 0) (pa_cons (pv 1) pa_nil))))
      (pss_cons (ps_expr (pe_call (ok_need_prices T) (hr.mono (by omega)) rfl T.d_need_prices.g T.d_need_prices.F.kp T.d_need_prices.b .nil (passes_call (takes_of rfl rfl rfl rfl) (fun _ _ _ _ h => h)) (pa_cons (pv 2) pa_nil)))
      (pss_one (ps_ret (pe_make T.S_mk (ok_S_init T) (hr.mono (by omega)) rfl T.S_g T.m_init.b .nil pass0 (pa_cons (pv 0) (pa_cons (pv 1) (pa_cons (pv 2) pa_nil))))))), ?_⟩
    refine ⟨_, rfl, _, rfl, va, da, na, vb, db, nb, rfl, ha, la, fa, hb, lb, fb, fun ea eb H1 s1 => ?_, fun ea H1 z s1 hz => ?_, fun ea eb H1 z s1 hz => ?_⟩
    · refine ⟨_, rfl, vp, dp, np, rfl, dp_same s1 hp, fp, fun ep H2 s2 => ?_, fun ep H2 z s2 hz => ?_⟩
      · rcases q with ⟨_, _, _, q⟩ | ⟨z, _⟩ | ⟨_, z, _⟩ | ⟨_, _, z, _⟩
        · obtain ⟨F, G, d, m, c, Tb, rfl, rfl, rfl, z1, z2, q⟩ := q
          refine ⟨_, rfl, _, rfl, _, rfl, fun x dx nx ndx nxd => ?_⟩
          have s3 : Same H2 (upd (upd H2 dx (.own x)) x (.ins T.CS dx [])) := (same_new ndx).trans (same_new (by rw [upd_ne (Ne.symm nxd)]; exact nx))
          have s13 := s1.trans (s2.trans s3)
          refine ⟨x, dx, va, vb, vp, F, G, d, m, c, Tb, rfl, upd_same, dp_same s13 ha, z1, dp_same s13 hb, z2, dp_same s13 hp, fun H4 kd st b4 nk => ⟨rfl, ?_⟩⟩
          have s4 : Same H H4 := fun a o h => b4 a o (s13 a o h) (ne_of_none ((s1.trans s2) a o h) nx)
          exact q H4 x kd st s4 (s13.free nk)
        · rw [ea] at z
          cases z
        · rw [eb] at z
          cases z
        · rw [ep] at z
          cases z
      · rcases q with ⟨_, _, y, q⟩ | ⟨y, _⟩ | ⟨_, y, _⟩ | ⟨_, _, y, q⟩
        · rw [ep] at y
          cases y
        · rw [ea] at y
          cases y
        · rw [eb] at y
          cases y
        · exact q H2 z (s1.trans s2) hz
    · rcases q with ⟨y, _⟩ | ⟨_, q⟩ | ⟨y, _⟩ | ⟨y, _⟩
      · rw [ea] at y
        cases y
      · exact q H1 z s1 hz
      · rw [ea] at y
        cases y
      · rw [ea] at y
        cases y
    · rcases q with ⟨_, y, _⟩ | ⟨y, _⟩ | ⟨_, _, q⟩ | ⟨_, y, _⟩
      · rw [eb] at y
        cases y
      · rw [ea] at y
        cases y
      · exact q H1 z s1 hz
      · rw [eb] at y
        cases y
theorem scforestdistance : FnScope ["a", "b", "prices", "stretches"] ["a", "b", "prices"] (defScope (topS 36)) := ⟨rfl, rfl, rfl, by decide +kernel, rfl, by decide +kernel, by decide +kernel⟩
def spDist (K : PySem.W.Frag) (C1 C2 : Addr) : Sp := fun vs H Q E => ∃ va vb vp da db dp, vs = [va, vb, vp] ∧ Three K H va vb vp da db dp ∧
  LookedAt K C1 C2 H va vb vp da db dp E (∃ F G d m c T, da = enc F ∧ db = enc G ∧ dp = prD d m c T ∧ F.size < 20 ∧ G.size < 20 ∧ ∀ H', Same H H' → Q (.int (dist (prOf d m c T) F G)) H')
theorem ok_forest_distance (T : Top P K mg) : FnOk P w K mg base (L2.CX P w) 45 T.d_forest_distance.f T.d_forest_distance.fd ["a", "b", "prices"] (spDist K T.C1 T.C2) := by
  refine T.d_forest_distance.F.okX scforestdistance (fun vs H Q E h => ?_) (fun cdv A outer s H vs Q E hr h => ?_)
  · obtain ⟨va, vb, vp, da, db, dp, rfl, _⟩ := h
    rfl
  · obtain ⟨va, vb, vp, da, db, dp, rfl, th, q⟩ := h
    refine ⟨_, pss_cons (ps_set (i := 3) scforestdistance.nd rfl (.inl rfl) (pe_call (ok_looked_at T) (hr.mono (by omega)) rfl T.d_looked_at.g T.d_looked_at.F.kp T.d_looked_at.b .nil (passes_call (takes_of rfl rfl rfl rfl) (fun _ _ _ _ h => h)) (pa_cons (pv 0) (pa_cons (pv 1) (pa_cons (pv 2) pa_nil)))))
      (pss_one (ps_ret (pe_meth (pv 3) T.S_cl T.m_least.m (ok_S_least T) (hr.mono (by omega)) T.m_least.b .nil pass0 (pa_cons (pe_meth0 (pv 3) T.S_cl T.m_whole.m (ok_S_whole T) (hr.mono (by omega)) T.m_whole.b .nil pass0) pa_nil)))), ?_⟩
    refine ⟨_, rfl, _, rfl, _, rfl, va, vb, vp, da, db, dp, rfl, th, ?_⟩
    rcases q with ⟨e1, e2, e3, F, G, d, m, c, Tb, f1, f2, f3, z1, z2, q⟩ | q | q | q
    · refine .inl ⟨e1, e2, e3, F, G, d, m, c, Tb, f1, f2, f3, z1, z2, fun H1 x kd st s1 nk => ?_⟩
      obtain ⟨⟨dx, n1, n2, w1, w2, g1, g2, vp, e0, _⟩, _⟩ := id st
      refine ⟨_, rfl, x, dx, _, rfl, e0, stF_least _ _ _ _ _ _ _ _, _, rfl, x, dx, _, rfl, e0, stF_whole _ _ _ _ _ _ _ _, x, kd, F, G, d, m, c, Tb, rfl, st, fun H2 k s2 ek => ?_⟩
      refine ⟨x, kd, F, G, d, m, c, Tb, k, 0, F, 0, G, rfl, st.same s2, z1, z2, seg_whole F, seg_whole G, ek, by omega, fun H3 b3 _ => q H3 ?_⟩
      exact fun a o h => b3 a o (s2 a o (s1 a o h)) (ne_of_none h nk)
    · exact .inr (.inl q)
    · exact .inr (.inr (.inl q))
    · exact .inr (.inr (.inr q))
end
end K14
set_option maxRecDepth 100000
set_option maxHeartbeats 4000000
namespace K14
open PySem PySem.Spec PyProof.Rows L2
open Fo
/-! ### rows of words -/
def rowL (p : Pr Str) (a b : List Str) (i n : Nat) : List Int := (List.range n).map fun j => rowTab p a b i j
theorem rowL_len (p : Pr Str) (a b : List Str) (i n : Nat) : (rowL p a b i n).length = n := by unfold rowL; rw [List.length_map, List.length_range]
theorem rowL_next (p : Pr Str) (a b : List Str) (i n : Nat) : rowL p a b i (n + 1) = rowL p a b i n ++ [rowTab p a b i n] := by
  unfold rowL
  rw [List.range_succ, List.map_append]
  rfl
theorem rowL_at (p : Pr Str) (a b : List Str) (i n j : Nat) (h : j < n) : (rowL p a b i n)[j]? = some (rowTab p a b i j) := by
  unfold rowL
  rw [List.getElem?_map, List.getElem?_range h]
  rfl
def rw0 (i j : Nat) : List Int := if i = 0 ∧ j = 0 then [0] else []
def rw1 (p : Pr Str) (a b : List Str) (i j : Nat) : List Int := if 0 < i then [rowTab p a b (i - 1) j + p.drop] else []
def rw2 (p : Pr Str) (a b : List Str) (i j : Nat) : List Int := if 0 < j then [rowTab p a b i (j - 1) + p.more] else []
def rw3 (p : Pr Str) (a b : List Str) (i j : Nat) : List Int := if 0 < i ∧ 0 < j then [rowTab p a b (i - 1) (j - 1) + p.ch (a.getD (i - 1) (PySem.Str.ofString "")) (b.getD (j - 1) (PySem.Str.ofString ""))] else []
theorem get_D {a : List Str} {i : Nat} (h : i < a.length) : a[i]? = some (a.getD i (PySem.Str.ofString "")) := by
  rw [List.getD_eq_getElem?_getD, List.getElem?_eq_getElem h]
  rfl
theorem rw_min (p : Pr Str) {a b : List Str} {i j : Nat} (hi : i ≤ a.length) (hj : j ≤ b.length) :
    rowTab p a b i j ∈ rw0 i j ++ rw1 p a b i j ++ rw2 p a b i j ++ rw3 p a b i j ∧ ∀ y ∈ rw0 i j ++ rw1 p a b i j ++ rw2 p a b i j ++ rw3 p a b i j, rowTab p a b i j ≤ y := by
  match i, j with
  | 0, 0 =>
    rw [rowTab_00]
    simp [rw0, rw1, rw2, rw3]
  | i + 1, 0 =>
    rw [rowTab_n0 p (get_D (by omega))]
    simp [rw0, rw1, rw2, rw3]
  | 0, j + 1 =>
    rw [rowTab_0n p (get_D (by omega))]
    simp [rw0, rw1, rw2, rw3]
  | i + 1, j + 1 =>
    rw [rowTab_nn p (get_D (a := a) (i := i) (by omega)) (get_D (a := b) (i := j) (by omega))]
    have e0 : rw0 (i + 1) (j + 1) = [] := by simp [rw0]
    have e1 : rw1 p a b (i + 1) (j + 1) = [rowTab p a b i (j + 1) + p.drop] := by simp [rw1]
    have e2 : rw2 p a b (i + 1) (j + 1) = [rowTab p a b (i + 1) j + p.more] := by simp [rw2]
    have e3 : rw3 p a b (i + 1) (j + 1) = [rowTab p a b i j + p.ch (a.getD i (PySem.Str.ofString "")) (b.getD j (PySem.Str.ofString ""))] := by simp [rw3]
    rw [e0, e1, e2, e3]
    simp only [List.nil_append, List.cons_append, List.mem_cons, List.not_mem_nil, or_false, forall_eq_or_imp, forall_eq]
    omega
theorem rw_len (p : Pr Str) (a b : List Str) (i j : Nat) : (rw0 i j ++ rw1 p a b i j ++ rw2 p a b i j ++ rw3 p a b i j).length ≤ 4 := by
  have h : ∀ (c : Prop) [Decidable c] (z : Int), (if c then [z] else []).length ≤ 1 := fun c _ z => by split <;> simp
  have h0 := h (i = 0 ∧ j = 0) 0
  have h1 := h (0 < i) (rowTab p a b (i - 1) j + p.drop)
  have h2 := h (0 < j) (rowTab p a b i (j - 1) + p.more)
  have h3 := h (0 < i ∧ 0 < j) (rowTab p a b (i - 1) (j - 1) + p.ch (a.getD (i - 1) (PySem.Str.ofString "")) (b.getD (j - 1) (PySem.Str.ofString "")))
  unfold rw0 rw1 rw2 rw3
  simp only [List.length_append]
  omega
theorem dec_nat (i : Nat) (j : Nat) : decide (V.int (i : Int) = V.int (j : Int)) = decide (i = j) := by
  rw [L2.dec_int]
  by_cases h : i = j
  · subst h
    simp
  · rw [decide_eq_false h]
    exact beq_eq_false_iff_ne.mpr fun z => h (by omega)
theorem dec_nat0 (i : Nat) : decide (V.int (i : Int) = V.int 0) = decide (i = 0) := dec_nat i 0
/-- the table's rows -/
structure RowsAt (H : Hp) (R : Addr) (rs : List Addr) (k : Nat) (p : Pr Str) (a b : List Str) : Prop where
  h : H R = some (.lst (rs.map V.ref))
  len : rs.length = k
  at_ : ∀ (i : Nat) (r : Addr), rs[i]? = some r → r ≠ R ∧ H r = some (.lst (isV (rowL p a b i (b.length + 1))))
theorem RowsAt.same {H H' : Hp} {R : Addr} {rs : List Addr} {k : Nat} {p : Pr Str} {a b : List Str} (h : RowsAt H R rs k p a b) (s : Same H H') : RowsAt H' R rs k p a b :=
  ⟨s _ _ h.h, h.len, fun i r e => ⟨(h.at_ i r e).1, s _ _ (h.at_ i r e).2⟩⟩
section
variable {P : Program} {w : World} {K : PySem.W.Frag} {mg : Str → Option Value} {base : Heap}
theorem sctableahead : FnScope ["a", "b", "prices", "drop", "more", "rows", "i", "row", "j", "ways"] ["a", "b", "prices"] (defScope (topS 18)) := ⟨rfl, rfl, rfl, by decide +kernel, rfl, by decide +kernel, by decide +kernel⟩
def spTable (K : PySem.W.Frag) : Sp := fun vs H Q _ => ∃ a b vp d m c T ws ws', vs = [.ref a, .ref b, vp] ∧ SqL K H a (ssV ws) ∧ SqL K H b (ssV ws') ∧ ws.length ≤ 1000 ∧ ws'.length ≤ 1000 ∧ Dp K H vp (prD d m c T) ∧
  ∀ H' R rs, Same H H' → RowsAt H' R rs (ws.length + 1) (prOf d m c T) ws ws' → Q (.ref R) H'
theorem ok_table_ahead (T : Top P K mg) : FnOk P w K mg base CX0 2 T.d_table_ahead.f T.d_table_ahead.fd ["a", "b", "prices"] (spTable K) := by
  refine T.d_table_ahead.F.ok sctableahead (fun vs H Q E h => ?_) (fun cdv A outer s H vs Q E hr h => ?_)
  · obtain ⟨a, b, vp, d, m, c, T, ws, ws', rfl, _⟩ := h
    rfl
  · obtain ⟨a, b, vp, d, m, c, Tb, ws, ws', rfl, ha, hb, la, lb, hp, q⟩ := h
    refine ⟨_, pss_cons (ps_asg (pe_slice sl_tupA (pv 2) (po_none) (po_some (pe_int))) (pg_tup rfl (pgs_cons (pg_name (i := 3) sctableahead.nd rfl (.inl rfl)) (pgs_cons (pg_name (i := 4) sctableahead.nd rfl (.inl rfl)) (pgs_nil)))))
      (pss_cons (ps_set (i := 5) sctableahead.nd rfl (.inl rfl) (pe_lst (pa_nil)))
      (pss_cons (ps_for PassesOwn.never rfl (pi_range1 rfl T.z_range (pa_cons (pe_op op_add (pe_callB call_len_seq rfl T.z_len PySem.boot_len (pa_cons (pv 0) pa_nil)) (pe_int)) pa_nil)) (pg_name (i := 6) sctableahead.nd rfl (.inl rfl))
      (pss_cons (ps_set (i := 7) sctableahead.nd rfl (.inl rfl) (pe_lst (pa_nil)))
      (pss_cons (ps_for PassesOwn.never rfl (pi_range1 rfl T.z_range (pa_cons (pe_op op_add (pe_callB call_len_seq rfl T.z_len PySem.boot_len (pa_cons (pv 1) pa_nil)) (pe_int)) pa_nil)) (pg_name (i := 8) sctableahead.nd rfl (.inl rfl))
      (Evl.pss_cut (ps_set (i := 9) sctableahead.nd rfl (.inl rfl) (pe_ifExp (PW.pt (pw_and (pt_cmpR op_eq (pv 6) (pe_int) (nomark _)) (pw_and1 (pt_cmpR op_eq (pv 8) (pe_int) (nomark _))))) (pe_lst (pa_cons (pe_int) pa_nil)) (pe_lst (pa_nil))))
      (Evl.pss_cut (ps_if (pt_cmpR op_gt (pv 6) (pe_int) (nomark _))
      (pss_one (ps_expr (pe_bm PySem.F.plainAttrs_list PySem.F.slot_list_append PySem.F.type_list_append mt_append (pv 9) (pa_cons (pe_op op_add (pe_ix ix_list (pe_ix ix_list (pv 5) (pe_op op_sub (pv 6) (pe_int)) (fun _ _ => rfl)) (pv 8) (fun _ _ => rfl)) (pv 3)) pa_nil))))
      (pss_nil))
      (Evl.pss_cut (ps_if (pt_cmpR op_gt (pv 8) (pe_int) (nomark _))
      (pss_one (ps_expr (pe_bm PySem.F.plainAttrs_list PySem.F.slot_list_append PySem.F.type_list_append mt_append (pv 9) (pa_cons (pe_op op_add (pe_ix ix_list (pv 7) (pe_op op_sub (pv 8) (pe_int)) (fun _ _ => rfl)) (pv 4)) pa_nil))))
      (pss_nil))
      (Evl.pss_cut (ps_if (PW.pt (pw_and (pt_cmpR op_gt (pv 6) (pe_int) (nomark _)) (pw_and1 (pt_cmpR op_gt (pv 8) (pe_int) (nomark _)))))
      (pss_one (ps_expr (pe_bm PySem.F.plainAttrs_list PySem.F.slot_list_append PySem.F.type_list_append mt_append (pv 9) (pa_cons (pe_op op_add (pe_ix ix_list (pe_ix ix_list (pv 5) (pe_op op_sub (pv 6) (pe_int)) (fun _ _ => rfl)) (pe_op op_sub (pv 8) (pe_int)) (fun _ _ => rfl)) (pe_call (ok_price_between T) (hr.mono (by omega)) rfl T.d_price_between.g T.d_price_between.F.kp T.d_price_between.b .nil pass0 (pa_cons (pv 2) (pa_cons (pe_ix ix_list (pv 0) (pe_op op_sub (pv 6) (pe_int)) (fun _ _ => rfl)) (pa_cons (pe_ix ix_list (pv 1) (pe_op op_sub (pv 8) (pe_int)) (fun _ _ => rfl)) pa_nil))))) pa_nil))))
      (pss_nil))
      (pss_one (ps_expr (pe_bm PySem.F.plainAttrs_list PySem.F.slot_list_append PySem.F.type_list_append mt_append (pv 7) (pa_cons (pe_callB (cr_min rfl) rfl T.z_min (by decide +kernel) (pa_cons (pv 9) pa_nil)) pa_nil)))))))))
      (pss_one (ps_expr (pe_bm PySem.F.plainAttrs_list PySem.F.slot_list_append PySem.F.type_list_append mt_append (pv 5) (pa_cons (pv 7) pa_nil)))))))
      (pss_one (ps_ret (pv 5))))), ?_⟩
    obtain ⟨ap, tp, txs, rfl, hSp, _, _⟩ := dp_prices hp
    refine ⟨_, rfl, 2, rfl, ap, _, rfl, hSp, fun z => absurd z (not_whole (n := 2) (by show 2 < 4; omega)), fun _ t nt => ?_⟩
    have s0 : Same H (upd H t (.tup [.int d, .int m])) := same_new nt
    have et : (upd H t (.tup (cutV [.int d, .int m, .int c, .ref tp] none (some 2)))) t = some (.tup [.int d, .int m]) := upd_same
    refine ⟨t, _, rfl, .inl (.inl et), rfl, _, _, rfl, _, _, rfl, rfl, ?_⟩
    refine ⟨Nat.zero_le _, fun R nR => ?_⟩
    generalize hH1 : upd H t (.tup (cutV [.int d, .int m, .int c, .ref tp] none (some 2))) = H1 at et nR ⊢
    have s1 : Same H H1 := by rw [← hH1]; exact same_new nt
    have s2 : Same H1 (upd H1 R (.lst [])) := same_new nR
    refine ⟨_, rfl, a, _, rfl, .inl ((s1.trans s2).seq ha), _, _, rfl, rfl, ((ws.length + 1 : Nat) : Int), by rw [ssV_len]; rfl, by omega, by omega, ?_⟩
    rw [Int.toNat_natCast]
    refine for_it walk_range (fun i σ H' => ∃ rs y1 y2 y3 y4, σ = [some (.ref a), some (.ref b), some (.ref ap), some (.int d), some (.int m), some (.ref R), y1, y2, y3, y4] ∧ Same H1 H' ∧ RowsAt H' R rs i (prOf d m c Tb) ws ws') ⟨[], none, none, none, none, rfl, s2, ⟨upd_same, rfl, fun i r e => nomatch e⟩⟩ (fun _ _ _ _ _ => trivial) ?_ ?_
    · rintro i x σ H2 H3 hi ⟨rs, y1, y2, y3, y4, rfl, s3, hr3⟩ ⟨rfl, hx⟩
      have hx : x = V.int (i : Int) := hx.trans (by show V.int (0 + (i : Int)) = _; rw [Int.zero_add])
      subst hx
      refine ⟨Nat.zero_le _, fun D nD => ?_⟩
      have s4 : Same H3 (upd H3 D (.lst [])) := same_new nD
      have s13 := s1.trans s3
      refine ⟨_, rfl, b, _, rfl, .inl ((s13.trans s4).seq hb), _, _, rfl, rfl, ((ws'.length + 1 : Nat) : Int), by rw [ssV_len]; rfl, by omega, by omega, ?_⟩
      rw [Int.toNat_natCast]
      refine for_it walk_range (fun j σ H' => ∃ y3 y4, σ = [some (.ref a), some (.ref b), some (.ref ap), some (.int d), some (.int m), some (.ref R), some (.int (i : Int)), some (.ref D), y3, y4] ∧ Same H3 H' ∧ H' D = some (.lst (isV (rowL (prOf d m c Tb) ws ws' i j)))) ⟨y3, y4, rfl, s4, upd_same⟩ (fun _ _ _ _ _ => trivial) ?_ ?_
      · rintro j x σ H4 H5 hj ⟨y3, y4, rfl, s5, e5⟩ ⟨rfl, hx⟩
        have hx : x = V.int (j : Int) := hx.trans (by show V.int (0 + (j : Int)) = _; rw [Int.zero_add])
        subst hx
        have s15 := s13.trans s5
        have hr5 := hr3.same s5
        refine ⟨fun σ H' => ∃ W, σ = [some (.ref a), some (.ref b), some (.ref ap), some (.int d), some (.int m), some (.ref R), some (.int (i : Int)), some (.ref D), some (.int (j : Int)), some (.ref W)] ∧ Same H5 H' ∧ H5 W = none ∧ H' W = some (.lst (isV (rw0 i j))), ?_, ?_⟩
        · refine ⟨_, rfl, rfl, _, rfl, ?_⟩
          rw [dec_nat0]
          have fin : ∀ (l : List Int) (W : Addr), H5 W = none → rw0 i j = l → Same H5 (upd H5 W (.lst (isV l))) ∧ H5 W = none ∧ (upd H5 W (.lst (isV l))) W = some (.lst (isV (rw0 i j))) := fun l W nW e => ⟨same_new nW, nW, by rw [upd_same, e]⟩
          by_cases h0 : i = 0
          · rw [decide_eq_true h0]
            refine iteT ⟨_, rfl, rfl, _, rfl, ?_⟩
            rw [dec_nat0]
            by_cases h1 : j = 0
            · rw [decide_eq_true h1]
              exact iteT ⟨by show 1 ≤ sizeLine; decide, fun W nW => ⟨W, rfl, fin [0] W nW (by unfold rw0; rw [if_pos ⟨h0, h1⟩])⟩⟩
            · rw [decide_eq_false h1]
              exact iteF ⟨Nat.zero_le _, fun W nW => ⟨W, rfl, fin [] W nW (by unfold rw0; rw [if_neg fun z => h1 z.2])⟩⟩
          · rw [decide_eq_false h0]
            exact iteF ⟨Nat.zero_le _, fun W nW => ⟨W, rfl, fin [] W nW (by unfold rw0; rw [if_neg fun z => h0 z.1])⟩⟩
        rintro σ H6 ⟨W, rfl, s6, nW, e6⟩
        refine ⟨fun σ H' => σ = [some (.ref a), some (.ref b), some (.ref ap), some (.int d), some (.int m), some (.ref R), some (.int (i : Int)), some (.ref D), some (.int (j : Int)), some (.ref W)] ∧ Same H5 H' ∧ H' W = some (.lst (isV (rw0 i j ++ rw1 (prOf d m c Tb) ws ws' i j))), ?_, ?_⟩
        · refine ⟨_, rfl, _, _, rfl, rfl, _, rfl, ?_⟩
          by_cases h0 : 0 < i
          · rw [decide_eq_true (show (0 : Int) < (i : Int) by omega)]
            obtain ⟨r, er⟩ : ∃ r, rs[i - 1]? = some r := ⟨_, List.getElem?_eq_getElem (by rw [hr3.len]; omega)⟩
            have hr6 := hr5.same s6
            refine iteT ⟨_, rfl, .inl ⟨rfl, _, .inl (.inl e6)⟩, _, rfl, _, rfl, _, _, rfl, rfl, R, _, _, _, rfl, rfl, .inl (.inl hr6.h), at_of (j := i - 1) (by omega) (by rw [List.getElem?_map, er]; rfl), _, rfl, r, _, _, _, rfl, rfl, .inl (.inl (hr6.at_ _ _ er).2), atI_nat (isV_at2 (rowL_at _ _ _ _ _ _ hj)), _, rfl, _, _, rfl, rfl, W, _, _, rfl, rfl, e6, ?_, ?_⟩
            · rw [isV_len]
              exact sz_lt (by have := rw_len (prOf d m c Tb) ws ws' i j; simp only [List.length_append] at this; omega)
            · refine ⟨rfl, same_set s6 nW, ?_⟩
              rw [upd_same, isV_app]
              unfold rw1
              rw [if_pos h0]
              rfl
          · rw [decide_eq_false (show ¬ (0 : Int) < (i : Int) by omega)]
            refine iteF ⟨rfl, s6, ?_⟩
            unfold rw1
            rw [if_neg h0, List.append_nil]
            exact e6
        rintro σ H7 ⟨rfl, s7, e7⟩
        refine ⟨fun σ H' => σ = [some (.ref a), some (.ref b), some (.ref ap), some (.int d), some (.int m), some (.ref R), some (.int (i : Int)), some (.ref D), some (.int (j : Int)), some (.ref W)] ∧ Same H5 H' ∧ H' W = some (.lst (isV (rw0 i j ++ rw1 (prOf d m c Tb) ws ws' i j ++ rw2 (prOf d m c Tb) ws ws' i j))), ?_, ?_⟩
        · refine ⟨_, rfl, _, _, rfl, rfl, _, rfl, ?_⟩
          by_cases h0 : 0 < j
          · rw [decide_eq_true (show (0 : Int) < (j : Int) by omega)]
            refine iteT ⟨_, rfl, .inl ⟨rfl, _, .inl (.inl e7)⟩, _, rfl, _, rfl, _, _, rfl, rfl, D, _, _, _, rfl, rfl, .inl (.inl (s7 _ _ e5)), at_of (j := j - 1) (by omega) (isV_at2 (rowL_at _ _ _ _ _ _ (by omega))), _, rfl, _, _, rfl, rfl, W, _, _, rfl, rfl, e7, ?_, ?_⟩
            · rw [isV_len]
              exact sz_lt (by have := rw_len (prOf d m c Tb) ws ws' i j; simp only [List.length_append] at this ⊢; omega)
            · refine ⟨rfl, same_set s7 nW, ?_⟩
              rw [upd_same, isV_app (_ ++ _) (rw2 _ _ _ _ _)]
              unfold rw2
              rw [if_pos h0]
              rfl
          · rw [decide_eq_false (show ¬ (0 : Int) < (j : Int) by omega)]
            refine iteF ⟨rfl, s7, ?_⟩
            unfold rw2
            rw [if_neg h0, List.append_nil]
            exact e7
        rintro σ H8 ⟨rfl, s8, e8⟩
        refine ⟨fun σ H' => σ = [some (.ref a), some (.ref b), some (.ref ap), some (.int d), some (.int m), some (.ref R), some (.int (i : Int)), some (.ref D), some (.int (j : Int)), some (.ref W)] ∧ Same H5 H' ∧ H' W = some (.lst (isV (rw0 i j ++ rw1 (prOf d m c Tb) ws ws' i j ++ rw2 (prOf d m c Tb) ws ws' i j ++ rw3 (prOf d m c Tb) ws ws' i j))), ?_, ?_⟩
        · refine ⟨_, rfl, _, _, rfl, rfl, _, rfl, ?_⟩
          by_cases h0 : 0 < i
          · rw [decide_eq_true (show (0 : Int) < (i : Int) by omega)]
            refine iteT ⟨_, rfl, _, _, rfl, rfl, _, rfl, ?_⟩
            by_cases h1 : 0 < j
            · rw [decide_eq_true (show (0 : Int) < (j : Int) by omega)]
              obtain ⟨r, er⟩ : ∃ r, rs[i - 1]? = some r := ⟨_, List.getElem?_eq_getElem (by rw [hr3.len]; omega)⟩
              have hr8 := hr5.same s8
              have s18 := s15.trans s8
              refine iteT ⟨_, rfl, .inl ⟨rfl, _, .inl (.inl e8)⟩, _, rfl, _, rfl, _, _, rfl, rfl, R, _, _, _, rfl, rfl, .inl (.inl hr8.h), at_of (j := i - 1) (by omega) (by rw [List.getElem?_map, er]; rfl), _, rfl, _, _, rfl, rfl, r, _, _, _, rfl, rfl, .inl (.inl (hr8.at_ _ _ er).2), at_of (j := j - 1) (by omega) (isV_at2 (rowL_at _ _ _ _ _ _ (by omega))), _, rfl, _, rfl, _, rfl, _, _, rfl, rfl, a, _, _, _, rfl, rfl, s18.seq ha, at_of (j := i - 1) (by omega) (ssV_at (get_D (by omega))), _, rfl, _, rfl, _, _, rfl, rfl, b, _, _, _, rfl, rfl, s18.seq hb, at_of (j := j - 1) (by omega) (ssV_at (get_D (by omega))), _, d, m, c, Tb, _, _, rfl, dp_same s18 hp, _, _, rfl, rfl, W, _, _, rfl, rfl, e8, ?_, ?_⟩
              · rw [isV_len]
                exact sz_lt (by have := rw_len (prOf d m c Tb) ws ws' i j; simp only [List.length_append] at this ⊢; omega)
              · refine ⟨rfl, same_set s8 nW, ?_⟩
                rw [upd_same, isV_app (_ ++ _) (rw3 _ _ _ _ _)]
                unfold rw3
                rw [if_pos ⟨h0, h1⟩]
                rfl
            · rw [decide_eq_false (show ¬ (0 : Int) < (j : Int) by omega)]
              refine iteF ⟨rfl, s8, ?_⟩
              unfold rw3
              rw [if_neg fun z => h1 z.2, List.append_nil]
              exact e8
          · rw [decide_eq_false (show ¬ (0 : Int) < (i : Int) by omega)]
            refine iteF ⟨rfl, s8, ?_⟩
            unfold rw3
            rw [if_neg fun z => h0 z.1, List.append_nil]
            exact e8
        rintro σ H9 ⟨rfl, s9, e9⟩
        have mn := rw_min (prOf d m c Tb) (a := ws) (b := ws') (i := i) (j := j) (by omega) (by omega)
        refine ⟨_, rfl, .inl ⟨rfl, _, .inl (.inl (s9 _ _ e5))⟩, _, rfl, W, _, rfl, .inl (.inl e9), List.length_pos_of_mem mn.1, fun z hz1 hz2 => ?_⟩
        have hz := min_is hz1 hz2 mn.1 mn.2
        subst hz
        refine ⟨D, _, _, rfl, rfl, s9 _ _ e5, ?_, ?_⟩
        · rw [isV_len, rowL_len]
          exact sz_lt (by omega)
        · refine ⟨_, _, rfl, same_set (s5.trans s9) nD, ?_⟩
          rw [upd_same, rowL_next, isV_app]
          rfl
      · rintro σ H4 ⟨y3, y4, rfl, s5, e5⟩
        have hr4 := hr3.same s5
        refine ⟨_, rfl, .inl ⟨rfl, _, .inl (.inl hr4.h)⟩, _, rfl, R, _, _, rfl, rfl, hr4.h, ?_, ?_⟩
        · rw [List.length_map, hr4.len]
          exact sz_lt (by omega)
        · have nDR : D ≠ R := Ne.symm (ne_of_none hr3.h nD)
          refine ⟨rs ++ [D], _, _, _, _, rfl, same_set (s3.trans s5) nR, ⟨by rw [upd_same, List.map_append]; rfl, by rw [List.length_append, hr4.len]; rfl, fun k r hk => ?_⟩⟩
          by_cases hkl : k < rs.length
          · rw [List.getElem?_append_left hkl] at hk
            obtain ⟨n1, n2⟩ := hr4.at_ k r hk
            exact ⟨n1, by rw [upd_ne n1]; exact n2⟩
          · have e := (List.getElem?_eq_some_iff.mp hk).1
            rw [List.length_append, List.length_singleton] at e
            have ek : k = rs.length := by omega
            subst ek
            rw [List.getElem?_append_right (Nat.le_refl _), Nat.sub_self] at hk
            have hk : D = r := Option.some.inj hk
            subst hk
            exact ⟨nDR, by rw [upd_ne nDR, hr4.len]; exact e5⟩
    · rintro σ H2 ⟨rs, y1, y2, y3, y4, rfl, s3, hr3⟩
      exact ⟨_, rfl, q H2 R rs (s1.trans s3) hr3⟩
end
end K14
set_option maxRecDepth 100000
set_option maxHeartbeats 4000000
namespace K14
open PySem PySem.Spec PyProof.Rows L2
open Fo
section
variable {P : Program} {w : World} {K : PySem.W.Frag} {mg : Str → Option Value} {base : Heap}
theorem scrowdistance : FnScope ["a", "b", "prices"] ["a", "b", "prices"] (defScope (topS 19)) := ⟨rfl, rfl, rfl, by decide +kernel, rfl, by decide +kernel, by decide +kernel⟩
def spRow (K : PySem.W.Frag) : Sp := fun vs H Q _ => ∃ a b vp d m c T ws ws' n, vs = [.ref a, .ref b, vp] ∧ SqL K H a (ssV ws) ∧ SqL K H b (ssV ws') ∧ ws.length ≤ 1000 ∧ ws'.length ≤ 1000 ∧ Dp K H vp (prD d m c T) ∧ fit (prD d m c T) n = true ∧ dPrices (prD d m c T) = true ∧
  ∀ H', Same H H' → Q (.int (dist (prOf d m c T) (flat ws) (flat ws'))) H'
theorem ok_row_distance (T : Top P K mg) : FnOk P w K mg base CX0 6 T.d_row_distance.f T.d_row_distance.fd ["a", "b", "prices"] (spRow K) := by
  refine T.d_row_distance.F.ok scrowdistance (fun vs H Q E h => ?_) (fun cdv A outer s H vs Q E hr h => ?_)
  · obtain ⟨a, b, vp, d, m, c, T, ws, ws', n, rfl, _⟩ := h
    rfl
  · obtain ⟨a, b, vp, d, m, c, Tb, ws, ws', n, rfl, ha, hb, la, lb, hp, hf, ok, q⟩ := h
    refine ⟨_, pss_cons (ps_expr (pe_call (ok_need_prices T) (hr.mono (by omega)) rfl T.d_need_prices.g T.d_need_prices.F.kp T.d_need_prices.b .nil passL (pa_cons (pv 2) pa_nil)))
      (pss_one (ps_ret (pe_ix ix_list (pe_ix ix_list (pe_call (ok_table_ahead T) (hr.mono (by omega)) rfl T.d_table_ahead.g T.d_table_ahead.F.kp T.d_table_ahead.b .nil pass0 (pa_cons (pv 0) (pa_cons (pv 1) (pa_cons (pv 2) pa_nil)))) (pe_callB call_len_seq rfl T.z_len PySem.boot_len (pa_cons (pv 0) pa_nil)) (fun _ _ => rfl)) (pe_callB call_len_seq rfl T.z_len PySem.boot_len (pa_cons (pv 1) pa_nil)) (fun _ _ => rfl)))), ?_⟩
    refine ⟨_, rfl, vp, prD d m c Tb, n, rfl, hp, hf, fun _ H1 s1 => ?_, fun z => ?_⟩
    · refine ⟨_, rfl, _, rfl, _, rfl, a, b, vp, d, m, c, Tb, ws, ws', rfl, s1.seq ha, s1.seq hb, la, lb, dp_same s1 hp, fun H2 R rs s2 hr2 => ?_⟩
      have s12 := s1.trans s2
      obtain ⟨r, er⟩ : ∃ r, rs[ws.length]? = some r := ⟨_, List.getElem?_eq_getElem (by rw [hr2.len]; omega)⟩
      refine ⟨_, rfl, a, _, rfl, .inl (s12.seq ha), R, _, _, .ref r, rfl, rfl, .inl (.inl hr2.h), ?_, ?_⟩
      · rw [ssV_len]
        exact atI_nat (by rw [List.getElem?_map, er]; rfl)
      · refine ⟨_, rfl, b, _, rfl, .inl (s12.seq hb), r, _, _, .int (rowTab (prOf d m c Tb) ws ws' ws.length ws'.length), rfl, rfl, .inl (.inl (hr2.at_ _ _ er).2), ?_, ?_⟩
        · rw [ssV_len]
          exact atI_nat (isV_at2 (rowL_at _ _ _ _ _ _ (by omega)))
        · rw [rowTab_all]
          exact q H2 s12
    · rw [ok] at z
      cases z
end
end K14
set_option maxRecDepth 100000
set_option maxHeartbeats 4000000
namespace K14
open PySem PySem.Spec PyProof.Rows L2
open Fo
/-! ### the law's box: three ints, whatever they are -/
def BoxAt (H : Hp) (a : Addr) : Prop := ∃ x y z, H a = some (.lst [.int x, .int y, .int z])
theorem fmod_nn (a : Int) {b : Int} (h : 0 < b) : 0 ≤ a.fmod b := by
  rw [Int.fmod_eq_emod_of_nonneg a (by omega)]
  exact Int.emod_nonneg a (by omega)
section
variable {P : Program} {w : World} {K : PySem.W.Frag} {mg : Str → Option Value} {base : Heap}
theorem sclawcell : FnScope ["_law_script", "_law_k"] ["_law_script", "_law_k"] (defScope (topS 38)) := ⟨rfl, rfl, rfl, by decide +kernel, rfl, by decide +kernel, by decide +kernel⟩
def spCell (K : PySem.W.Frag) : Sp := fun vs H Q _ => ∃ a, ∃ k : Nat, ∃ ns, vs = [.ref a, .int (k : Int)] ∧ SqL K H a (isV ns) ∧ ∀ z, Q (.int z) H
theorem ok_law_cell (T : Top P K mg) : FnOk P w K mg base CX0 1 T.d_law_cell.f T.d_law_cell.fd ["_law_script", "_law_k"] (spCell K) := by
  refine T.d_law_cell.F.ok sclawcell (fun vs H Q E h => ?_) (fun cdv A outer s H vs Q E hr h => ?_)
  · obtain ⟨a, k, ns, rfl, _⟩ := h
    rfl
  · obtain ⟨a, k, ns, rfl, hS, q⟩ := h
    refine ⟨_, pss_cons (ps_if (pt_cmpR op_lt (pv 1) (pe_callB call_len_seq rfl T.z_len PySem.boot_len (pa_cons (pv 0) pa_nil)) (nomark _))
      (pss_one (ps_ret (pe_ix ix_list (pv 0) (pv 1) (fun _ _ => rfl))))
      (pss_nil))
      (pss_one (ps_ret (pe_int))), ?_⟩
    refine ⟨_, rfl, _, rfl, a, _, rfl, .inl hS, _, _, rfl, rfl, _, rfl, ?_⟩
    rw [isV_len]
    by_cases h : k < ns.length
    · rw [decide_eq_true (show (k : Int) < (ns.length : Int) by omega)]
      exact iteT ⟨_, rfl, _, rfl, a, _, _, _, rfl, rfl, hS, atV rfl h, q _⟩
    · rw [decide_eq_false (show ¬ (k : Int) < (ns.length : Int) by omega)]
      exact iteF (q _)
theorem sclawmix : FnScope ["_law_cell_here", "_law_salt", "_law_one"] ["_law_cell_here", "_law_salt"] (defScope (topS 39)) := ⟨rfl, rfl, rfl, by decide +kernel, rfl, by decide +kernel, by decide +kernel⟩
def spMix : Sp := fun vs H Q _ => ∃ x y, vs = [.int x, .int y] ∧ ∀ z, Q (.int z) H
theorem ok_law_mix (T : Top P K mg) : FnOk P w K mg base CX0 1 T.d_law_mix.f T.d_law_mix.fd ["_law_cell_here", "_law_salt"] spMix := by
  refine T.d_law_mix.F.ok sclawmix (fun vs H Q E h => ?_) (fun cdv A outer s H vs Q E hr h => ?_)
  · obtain ⟨x, y, rfl, _⟩ := h
    rfl
  · obtain ⟨x, y, rfl, q⟩ := h
    refine ⟨_, pss_cons (ps_set (i := 2) sclawmix.nd rfl (.inl rfl) (pe_op op_modN (pe_callTy call_int1 rfl T.z_int (by decide +kernel) (pa_cons (pe_op op_add (pe_op op_add (pe_op op_mul (pv 0) (pe_int)) (pe_op op_mul (pv 1) (pe_int))) (pe_int)) pa_nil)) (pe_int)))
      (pss_one (ps_ret (pe_op op_modN (pe_callTy call_int1 rfl T.z_int (by decide +kernel) (pa_cons (pe_op op_add (pe_op op_add (pe_op op_mul (pv 2) (pv 2)) (pe_op op_mul (pv 2) (pe_int))) (pe_op op_mul (pv 1) (pe_int))) pa_nil)) (pe_int)))), ?_⟩
    have cm : ∀ i j : Int, -(2 ^ 64) < j → j < 2 ^ 64 → CMul i j := fun i j h1 h2 => .inr ⟨h1, h2⟩
    refine ⟨_, rfl, _, _, rfl, rfl, cm _ _ (by decide) (by decide), _, rfl, _, _, rfl, rfl, cm _ _ (by decide) (by decide), _, _, rfl, rfl, _, _, rfl, rfl, .inl ⟨_, rfl, _, _, rfl, rfl, (show (2147483647 : Int) ≠ 0 by decide), ?_⟩⟩
    have b1 := fmod_nn (x * 48271 + y * 69621 + 12345) (b := 2147483647) (by decide)
    have b2 := Int.fmod_lt_of_pos (x * 48271 + y * 69621 + 12345) (b := 2147483647) (by decide)
    exact ⟨_, rfl, _, rfl, _, _, rfl, rfl, cm _ _ (by omega) (by omega), _, rfl, _, _, rfl, rfl, cm _ _ (by decide) (by decide), _, _, rfl, rfl, _, rfl, _, _, rfl, rfl, cm _ _ (by decide) (by decide), _, _, rfl, rfl, .inl ⟨_, rfl, _, _, rfl, rfl, (show (2147483629 : Int) ≠ 0 by decide), q _⟩⟩
theorem sclawbox : FnScope ["_law_script", "_law_at", "_law_cell_here"] ["_law_script", "_law_at"] (defScope (topS 40)) := ⟨rfl, rfl, rfl, by decide +kernel, rfl, by decide +kernel, by decide +kernel⟩
def spBox (K : PySem.W.Frag) : Sp := fun vs H Q _ => ∃ a, ∃ k : Nat, ∃ ns, vs = [.ref a, .int (k : Int)] ∧ SqL K H a (isV ns) ∧ ∀ H' b, Same H H' → H b = none → BoxAt H' b → Q (.ref b) H'
theorem ok_law_box (T : Top P K mg) : FnOk P w K mg base CX0 2 T.d_law_box.f T.d_law_box.fd ["_law_script", "_law_at"] (spBox K) := by
  refine T.d_law_box.F.ok sclawbox (fun vs H Q E h => ?_) (fun cdv A outer s H vs Q E hr h => ?_)
  · obtain ⟨a, k, ns, rfl, _⟩ := h
    rfl
  · obtain ⟨a, k, ns, rfl, hS, q⟩ := h
    refine ⟨_, pss_cons (ps_set (i := 2) sclawbox.nd rfl (.inl rfl) (pe_call (ok_law_cell T) (hr.mono (by omega)) rfl T.d_law_cell.g T.d_law_cell.F.kp T.d_law_cell.b .nil pass0 (pa_cons (pv 0) (pa_cons (pv 1) pa_nil))))
      (pss_one (ps_ret (pe_lst (pa_cons (pe_callB (call_max2 rfl) rfl T.z_max (by decide +kernel) (pa_cons (pe_int) (pa_cons (pe_op op_sub (pv 2) (pe_op op_pow (pe_int) (pe_int))) pa_nil))) (pa_cons (pe_int) (pa_cons (pv 2) pa_nil)))))), ?_⟩
    refine ⟨_, rfl, _, rfl, a, k, ns, rfl, hS, fun z => ?_⟩
    refine ⟨_, rfl, _, _, rfl, rfl, ⟨by decide, by decide, by decide⟩, _, _, rfl, rfl, _, _, rfl, _, rfl, by show 3 ≤ sizeLine; decide, fun b nb => ?_⟩
    exact q _ b (same_new nb) nb ⟨_, _, _, upd_same⟩
theorem sclawdraw : FnScope ["_law_box_here", "_law_many", "_law_drawn"] ["_law_box_here", "_law_many"] (defScope (topS 41)) := ⟨rfl, rfl, rfl, by decide +kernel, rfl, by decide +kernel, by decide +kernel⟩
def spDraw : Sp := fun vs H Q _ => ∃ a, ∃ n : Nat, vs = [.ref a, .int (n : Int)] ∧ BoxAt H a ∧ 0 < n ∧ n < 10000 ∧ ∀ (z : Nat) H', z < n → But1 a H H' → BoxAt H' a → Q (.int (z : Int)) H'
theorem ok_law_draw (T : Top P K mg) : FnOk P w K mg base CX0 2 T.d_law_draw.f T.d_law_draw.fd ["_law_box_here", "_law_many"] spDraw := by
  refine T.d_law_draw.F.ok sclawdraw (fun vs H Q E h => ?_) (fun cdv A outer s H vs Q E hr h => ?_)
  · obtain ⟨a, n, rfl, _⟩ := h
    rfl
  · obtain ⟨a, n, rfl, ⟨x, y, z, hb⟩, h1, h2, q⟩ := h
    have q' : ∀ (z : Int) H', 0 ≤ z → z < n → But1 a H H' → BoxAt H' a → Q (.int z) H' := fun z H' h1 h2 b e => by
      have := q z.toNat H' (by omega) b e
      rw [Int.toNat_of_nonneg h1] at this
      exact this
    have m1 : ∀ z : Int, 0 ≤ z.fmod n := fun z => fmod_nn z (by omega)
    have m2 : ∀ z : Int, z.fmod n < n := fun z => Int.fmod_lt_of_pos z (by omega)
    refine ⟨_, pss_cons (ps_if (pt_cmpR op_gt (pe_ix ix_list (pv 0) (pe_int) (fun _ _ => rfl)) (pe_int) (nomark _))
      (pss_cons (ps_set (i := 2) sclawdraw.nd rfl (.inl rfl) (pe_op op_modN (pe_callTy call_int1 rfl T.z_int (by decide +kernel) (pa_cons (pe_ix ix_list (pv 0) (pe_int) (fun _ _ => rfl)) pa_nil)) (pv 1)))
      (pss_cons (ps_asg (pe_op op_fdivN (pe_ix ix_list (pv 0) (pe_int) (fun _ _ => rfl)) (pv 1)) (pg_sub (pv 0) (pe_int) set_list))
      (pss_one (ps_ret (pv 2)))))
      (pss_nil))
      (pss_cons (ps_asg (pe_op op_add (pe_ix ix_list (pv 0) (pe_int) (fun _ _ => rfl)) (pe_int)) (pg_sub (pv 0) (pe_int) set_list))
      (pss_one (ps_ret (pe_op op_modN (pe_callTy call_int1 rfl T.z_int (by decide +kernel) (pa_cons (pe_call (ok_law_mix T) (hr.mono (by omega)) rfl T.d_law_mix.g T.d_law_mix.F.kp T.d_law_mix.b .nil pass0 (pa_cons (pe_ix ix_list (pv 0) (pe_int) (fun _ _ => rfl)) (pa_cons (pe_ix ix_list (pv 0) (pe_int) (fun _ _ => rfl)) pa_nil))) pa_nil)) (pv 1))))), ?_⟩
    refine ⟨_, rfl, a, _, 0, _, rfl, rfl, .inl (.inl hb), atI_nat (j := 0) rfl, _, _, rfl, rfl, _, rfl, ?_⟩
    by_cases h : 0 < x
    · rw [decide_eq_true h]
      refine iteT ⟨_, rfl, a, _, 0, _, rfl, rfl, .inl (.inl hb), atI_nat (j := 0) rfl, .inl ⟨_, rfl, _, rfl, _, _, rfl, rfl, by omega, ?_⟩⟩
      refine ⟨_, rfl, a, _, 0, _, rfl, rfl, .inl (.inl hb), atI_nat (j := 0) rfl, _, rfl, _, _, rfl, rfl, ⟨by omega, by omega⟩, ?_⟩
      refine ⟨_, rfl, a, _, _, _, rfl, rfl, hb, ixN_nat (j := 0) rfl (by show 0 < 3; decide), ?_⟩
      exact ⟨_, rfl, q' _ _ (m1 x) (m2 x) but_set ⟨_, _, _, upd_same⟩⟩
    · rw [decide_eq_false h]
      refine iteF ⟨_, rfl, a, _, 1, _, rfl, rfl, .inl (.inl hb), atI_nat (j := 1) rfl, _, _, rfl, rfl, ?_⟩
      refine ⟨_, rfl, a, _, _, _, rfl, rfl, hb, ixN_nat (j := 1) rfl (by show 1 < 3; decide), ?_⟩
      refine ⟨_, rfl, a, _, 2, _, rfl, rfl, .inl (.inl upd_same), atI_nat (j := 2) rfl, _, rfl, a, _, 1, _, rfl, rfl, .inl (.inl upd_same), atI_nat (j := 1) rfl, _, _, rfl, fun u => .inl ⟨_, rfl, _, rfl, _, _, rfl, rfl, by omega, ?_⟩⟩
      exact q' _ _ (m1 u) (m2 u) but_set ⟨_, _, _, upd_same⟩
end
end K14
set_option maxRecDepth 100000
set_option maxHeartbeats 4000000
namespace K14
open PySem PySem.Spec PyProof.Rows L2
open Fo
theorem join_one : ∀ l : List Nat, PySem.Str.join (PySem.Str.ofString "") (l.map fun c => (⟨#[c]⟩ : Str)) = (⟨l.toArray⟩ : Str)
  | [] => rfl
  | [c] => rfl
  | c :: d :: r => by
    have ih := join_one (d :: r)
    have e : PySem.Str.join (PySem.Str.ofString "") ((c :: d :: r).map fun c => (⟨#[c]⟩ : Str)) = (⟨#[c]⟩ : Str) ++ PySem.Str.ofString "" ++ PySem.Str.join (PySem.Str.ofString "") ((d :: r).map fun c => (⟨#[c]⟩ : Str)) := rfl
    rw [e, ih]
    have e2 : (PySem.Str.ofString "") = (⟨#[]⟩ : Str) := by decide +kernel
    rw [e2]
    show (⟨(#[c] ++ #[]) ++ (d :: r).toArray⟩ : Str) = _
    simp
theorem wordOk_of {l : List Nat} (h1 : 1 ≤ l.length) (h2 : l.length ≤ 8) (h3 : ∀ c ∈ l, c ∈ letters.cps.toList) : wordOk ⟨l.toArray⟩ = true := by
  unfold wordOk
  simp only [Bool.and_eq_true, decide_eq_true_eq, List.all_eq_true]
  exact ⟨by show 1 ≤ l.toArray.size; simpa using h1, by show l.toArray.size ≤ 8; simpa using h2, h3⟩
theorem sum_ones : ∀ l : List Nat, ((l.map fun c => (⟨#[c]⟩ : Str)).map (·.length)).sum = l.length
  | [] => rfl
  | c :: r => by
    rw [List.map_cons, List.map_cons, List.sum_cons, sum_ones r, List.length_cons]
    show 1 + r.length = _
    omega
section
variable {P : Program} {w : World} {K : PySem.W.Frag} {mg : Str → Option Value} {base : Heap}
theorem sclawword : FnScope ["_law_box_here", "_law_size", "_law_k"] ["_law_box_here"] (defScope (topS 42)) := ⟨rfl, rfl, rfl, by decide +kernel, rfl, by decide +kernel, by decide +kernel⟩
def spWord1 : Sp := fun vs H Q _ => ∃ a, vs = [.ref a] ∧ BoxAt H a ∧ ∀ s H', wordOk s = true → But1 a H H' → BoxAt H' a → Q (.str s) H'
theorem ok_law_word (T : Top P K mg) : FnOk P w K mg base CX0 3 T.d_law_word.f T.d_law_word.fd ["_law_box_here"] spWord1 := by
  refine T.d_law_word.F.ok sclawword (fun vs H Q E h => ?_) (fun cdv A outer s H vs Q E hr h => ?_)
  · obtain ⟨a, rfl, _⟩ := h
    rfl
  · obtain ⟨a, rfl, hb, q⟩ := h
    refine ⟨_, pss_cons (ps_if (pt_cmpR op_gt (pe_call (ok_law_draw T) (hr.mono (by omega)) rfl T.d_law_draw.g T.d_law_draw.F.kp T.d_law_draw.b .nil pass0 (pa_cons (pv 0) (pa_cons (pe_int) pa_nil))) (pe_int) (nomark _))
      (pss_one (ps_ret (pe_ix ix_str (pe_str) (pe_call (ok_law_draw T) (hr.mono (by omega)) rfl T.d_law_draw.g T.d_law_draw.F.kp T.d_law_draw.b .nil pass0 (pa_cons (pv 0) (pa_cons (pe_int) pa_nil))) (fun _ _ => rfl))))
      (pss_nil))
      (pss_cons (ps_set (i := 1) sclawword.nd rfl (.inl rfl) (pe_op op_add (pe_int) (pe_call (ok_law_draw T) (hr.mono (by omega)) rfl T.d_law_draw.g T.d_law_draw.F.kp T.d_law_draw.b .nil pass0 (pa_cons (pv 0) (pa_cons (pe_int) pa_nil)))))
      (pss_one (ps_ret (pe_join (pe_str) (pe_lc (own := [("_law_k", 2)]) (g := gName 2) (tt := tYes) rfl sclawword.nd (pi_range1 rfl T.z_range (pa_cons (pv 1) pa_nil)) (blkOk_by (own := [("_law_k", 2)]) (N := ["_law_box_here", "_law_size", "_law_k"]) (sc := defScope (topS 42)) (by decide +kernel)) (fun _ _ _ _ _ => pg_name (i := 2) sclawword.nd rfl (.inl rfl)) (fun _ _ _ _ _ => pts_nil) (fun _ _ _ _ _ => pe_ix ix_str (pe_str) (pe_call (ok_law_draw T) (hr.mono (by omega)) rfl T.d_law_draw.g T.d_law_draw.F.kp T.d_law_draw.b .nil pass0 (pa_cons (pv 0) (pa_cons (pe_int) pa_nil))) (fun _ _ => rfl))))))), ?_⟩
    have at_ : ∀ (t : Str) (z : Nat), z < t.cps.toList.length → atI t.cps.toList (z : Int) = some (t.cps.toList.getD z 0) := fun t z h => atI_nat (by rw [List.getD_eq_getElem?_getD, List.getElem?_eq_getElem h]; rfl)
    refine ⟨_, rfl, a, 4, rfl, hb, by decide, by decide, fun z H1 hz b1 e1 => ⟨_, _, rfl, rfl, _, rfl, ?_⟩⟩
    by_cases h : (0 : Int) < (z : Int)
    · rw [decide_eq_true h]
      have l3 : (PySem.Str.ofString "abc").cps.toList.length = 3 := by decide +kernel
      refine iteT ⟨_, rfl, a, 3, rfl, e1, by decide, by decide, fun y H2 hy b2 e2 => ⟨_, _, _, rfl, rfl, by decide +kernel, at_ _ _ (by rw [l3]; exact hy), ?_⟩⟩
      refine q _ H2 (wordOk_of (l := [_]) (Nat.le_refl 1) (show 1 ≤ 8 by decide) fun c hc => ?_) (b1.trans b2) e2
      cases List.mem_singleton.mp hc
      have hall : ∀ c ∈ (PySem.Str.ofString "abc").cps.toList, c ∈ letters.cps.toList := by decide +kernel
      refine hall _ ?_
      rw [List.getD_eq_getElem?_getD, List.getElem?_eq_getElem (by rw [l3]; exact hy)]
      exact List.getElem_mem _
    · rw [decide_eq_false h]
      refine iteF ⟨_, rfl, a, 8, rfl, e1, by decide, by decide, fun y H2 hy b2 e2 => ⟨_, _, rfl, rfl, ?_⟩⟩
      have b12 := b1.trans b2
      refine ⟨⟨_, rfl⟩, _, rfl, ((1 + y : Nat) : Int), by rw [Int.natCast_add]; rfl, by omega, by omega, fun D nD => ?_⟩
      rw [Int.toNat_natCast]
      have nDa : D ≠ a := by
        obtain ⟨_, _, _, e2⟩ := e2
        exact (ne_of_none e2 nD).symm
      refine lc_it walk_range (fun i H' => ∃ l : List Nat, l.length = i ∧ (∀ c ∈ l, c ∈ letters.cps.toList) ∧ But1 a H2 H' ∧ BoxAt H' a ∧ H' D = some (.lst ((l.map fun c => (⟨#[c]⟩ : Str)).map V.str))) ⟨[], rfl, (fun _ h => nomatch h), but_of (same_new nD), ?_, upd_same⟩ (fun _ _ _ _ => trivial) ?_ ?_
      · obtain ⟨u1, u2, u3, e2⟩ := e2
        exact ⟨u1, u2, u3, same_new nD _ _ e2⟩
      · rintro i x H3 H4 hi ⟨l, hl, hc, b3, e3, ed⟩ ⟨rfl, _⟩
        have l26 : (PySem.Str.ofString "abcdefghijklmnopqrstuvwxyz").cps.toList.length = 26 := by decide +kernel
        refine ⟨rfl, _, rfl, a, 26, rfl, e3, by decide, by decide, fun u H5 hu b5 e5 => ⟨_, _, _, rfl, rfl, by decide +kernel, at_ _ _ (by rw [l26]; exact hu), _, b5 _ _ ed nDa, ?_, ?_⟩⟩
        · rw [List.length_map, List.length_map]
          exact sz_lt (by omega)
        · refine ⟨l ++ [letters.cps.toList.getD u 0], by rw [List.length_append, hl]; rfl, fun c h => ?_, ?_, ?_, ?_⟩
          · rcases List.mem_append.mp h with h | h
            · exact hc c h
            · cases List.mem_singleton.mp h
              rw [List.getD_eq_getElem?_getD, List.getElem?_eq_getElem (by show u < letters.cps.toList.length; rw [show letters.cps.toList.length = 26 from l26]; exact hu)]
              exact List.getElem_mem _
          · intro b o hbo hba
            rw [upd_ne (ne_of_none hbo nD)]
            exact b5 _ _ (b3 _ _ hbo hba) hba
          · obtain ⟨u1, u2, u3, e5⟩ := e5
            exact ⟨u1, u2, u3, by rw [upd_ne (Ne.symm nDa)]; exact e5⟩
          · rw [upd_same, List.map_append, List.map_append]
            rfl
      · rintro H3 ⟨l, hl, hc, b3, e3, ed⟩
        refine ⟨_, D, _, rfl, rfl, .inl (.inl (.inl ed)), ?_, ?_⟩
        · rw [sum_ones, List.length_map]
          have : (PySem.Str.ofString "").length = 0 := by decide +kernel
          rw [this]
          omega
        · rw [TL.join_eq, join_one]
          exact q _ H3 (wordOk_of (by omega) (by omega) hc) (b12.trans b3) e3
end
end K14
set_option maxRecDepth 100000
set_option maxHeartbeats 4000000
namespace K14
open PySem PySem.Spec PyProof.Rows L2
open Fo
theorem isV_take (l : List Int) (n : Nat) : (isV l).take n = isV (l.take n) := by
  unfold isV
  rw [List.map_take]
theorem BoxAt.keep {H H' : Hp} {a b : Addr} (h : BoxAt H a) (s : But1 b H H') (n : a ≠ b) : BoxAt H' a := by
  obtain ⟨x, y, z, e⟩ := h
  exact ⟨x, y, z, s _ _ e n⟩
theorem BoxAt.same {H H' : Hp} {a : Addr} (h : BoxAt H a) (s : Same H H') : BoxAt H' a := by
  obtain ⟨x, y, z, e⟩ := h
  exact ⟨x, y, z, s _ _ e⟩
theorem BoxAt.ne {H : Hp} {a b : Addr} (h : BoxAt H a) (n : H b = none) : a ≠ b := by
  obtain ⟨x, y, z, e⟩ := h
  exact ne_of_none e n
/-- a new address set: all but a stays -/
theorem But1.put {H H' : Hp} {a b : Addr} {o : HO} (h : But1 a H H') (n : H b = none) : But1 a H (upd H' b o) := fun c u hc ha => by
  rw [upd_ne (ne_of_none hc n)]
  exact h c u hc ha
section
variable {P : Program} {w : World} {K : PySem.W.Frag} {mg : Str → Option Value} {base : Heap}
theorem sclawparents : FnScope ["_law_box_here", "_law_many", "_law_parents_here", "_law_chain", "_law_k", "_law_at"] ["_law_box_here", "_law_many"] (defScope (topS 43)) := ⟨rfl, rfl, rfl, by decide +kernel, rfl, by decide +kernel, by decide +kernel⟩
def ParsOf (n : Nat) (ps : List Int) : Prop := ps.length = n ∧ ∃ ch, IsPar Str ps ch
def spParents : Sp := fun vs H Q _ => ∃ a, ∃ n : Nat, vs = [.ref a, .int (n : Int)] ∧ BoxAt H a ∧ n < 1000 ∧ ∀ H' l ps, But1 a H H' → BoxAt H' a → H l = none → H' l = some (.lst (isV ps)) → ParsOf n ps → Q (.ref l) H'
theorem ok_law_parents (T : Top P K mg) : FnOk P w K mg base CX0 3 T.d_law_parents.f T.d_law_parents.fd ["_law_box_here", "_law_many"] spParents := by
  refine T.d_law_parents.F.ok sclawparents (fun vs H Q E h => ?_) (fun cdv A outer s H vs Q E hr h => ?_)
  · obtain ⟨a, n, rfl, _⟩ := h
    rfl
  · obtain ⟨a, n, rfl, hb, hn, q⟩ := h
    refine ⟨_, pss_cons (ps_set (i := 2) sclawparents.nd rfl (.inl rfl) (pe_lst (pa_nil)))
      (pss_cons (ps_set (i := 3) sclawparents.nd rfl (.inl rfl) (pe_lst (pa_cons (pe_un un_neg (pe_int)) pa_nil)))
      (pss_cons (ps_for PassesOwn.never rfl (pi_range1 rfl T.z_range (pa_cons (pv 1) pa_nil)) (pg_name (i := 4) sclawparents.nd rfl (.inl rfl))
      (pss_cons (ps_set (i := 5) sclawparents.nd rfl (.inl rfl) (pe_call (ok_law_draw T) (hr.mono (by omega)) rfl T.d_law_draw.g T.d_law_draw.F.kp T.d_law_draw.b .nil pass0 (pa_cons (pv 0) (pa_cons (pe_callB call_len_seq rfl T.z_len PySem.boot_len (pa_cons (pv 3) pa_nil)) pa_nil))))
      (pss_cons (ps_expr (pe_bm PySem.F.plainAttrs_list PySem.F.slot_list_append PySem.F.type_list_append mt_append (pv 2) (pa_cons (pe_ix ix_list (pv 3) (pv 5) (fun _ _ => rfl)) pa_nil)))
      (pss_one (ps_set (i := 3) sclawparents.nd rfl (.inl rfl) (pe_slice sl_list (pe_op op_cat (pe_slice sl_list (pv 3) (po_none) (po_some (pe_op op_add (pv 5) (pe_int)))) (pe_lst (pa_cons (pv 4) pa_nil))) (po_none) (po_some (pe_int))))))))
      (pss_one (ps_ret (pv 2))))), ?_⟩
    refine ⟨Nat.zero_le _, fun L nL => ⟨1, rfl, by show 1 ≤ sizeLine; decide, fun C nC => ?_⟩⟩
    have s1 : Same H (upd H L (.lst [])) := same_new nL
    have s2 : Same (upd H L (.lst [])) (upd (upd H L (.lst [])) C (.lst [.int (-1)])) := same_new nC
    have nLC : L ≠ C := ne_of_none upd_same nC
    have nLa : L ≠ a := (hb.ne nL).symm
    refine ⟨_, rfl, (n : Int), rfl, by omega, by omega, ?_⟩
    rw [Int.toNat_natCast]
    refine for_it walk_range (fun i σ H' => ∃ ps ch C y4 y5, σ = [some (.ref a), some (.int (n : Int)), some (.ref L), some (.ref C), y4, y5] ∧ But1 a H H' ∧ BoxAt H' a ∧ H' L = some (.lst (isV ps)) ∧ H' C = some (.lst (isV ch)) ∧ L ≠ C ∧ C ≠ a ∧ ps.length = i ∧ IsPar Str ps ch ∧ 1 ≤ ch.length ∧ ch.length ≤ 8)
      ⟨[], [-1], C, none, none, rfl, but_of (s1.trans s2), hb.same (s1.trans s2), s2 _ _ upd_same, upd_same, nLC, ((hb.same s1).ne nC).symm, rfl, isPar_nil Str, by decide, by decide⟩ (fun _ _ _ _ _ => trivial) ?_ ?_
    · rintro i x σ H1 H2 hi ⟨ps, ch, C, y4, y5, rfl, b1, e1, eL, eC, nLC, nCa, hl, hp, hc1, hc2⟩ ⟨rfl, hx⟩
      have hx : x = V.int (i : Int) := hx.trans (by show V.int (0 + (i : Int)) = _; rw [Int.zero_add])
      subst hx
      refine ⟨_, rfl, _, rfl, C, _, rfl, .inl (.inl (.inl eC)), a, (isV ch).length, rfl, e1, by rw [isV_len]; omega, by rw [isV_len]; omega, fun z H3 hz b3 e3 => ?_⟩
      rw [isV_len] at hz
      have eL3 := b3 _ _ eL nLa
      have eC3 := b3 _ _ eC nCa
      refine ⟨_, rfl, .inl ⟨rfl, _, .inl (.inl eL3)⟩, _, rfl, _, rfl, C, _, _, _, rfl, rfl, .inl (.inl eC3), atV rfl hz, L, _, _, rfl, rfl, eL3, by rw [isV_len]; exact sz_lt (by omega), ?_⟩
      have b4 : But1 a H (upd H3 L (.lst (isV ps ++ [.int (gI ch z)]))) := (b1.trans b3).put nL
      have e4 : BoxAt (upd H3 L (.lst (isV ps ++ [.int (gI ch z)]))) a := e3.keep but_set nLa.symm
      have eL4 : (upd H3 L (.lst (isV ps ++ [.int (gI ch z)]))) L = some (.lst (isV (ps ++ [gI ch z]))) := by rw [upd_same, isV_app]; rfl
      have eC4 : (upd H3 L (.lst (isV ps ++ [.int (gI ch z)]))) C = some (.lst (isV ch)) := by rw [upd_ne (Ne.symm nLC)]; exact eC3
      generalize upd H3 L (.lst (isV ps ++ [.int (gI ch z)])) = H4 at b4 e4 eL4 eC4 ⊢
      refine ⟨_, rfl, _, rfl, _, _, rfl, rfl, _, rfl, C, _, rfl, .inl (.inl eC4), fun p1 np1 => ?_⟩
      have cut1 : cutV (isV ch) none (some ((z : Int) + 1)) = isV (ch.take (z + 1)) := by
        rw [← isV_take]
        exact cut_to _ (z + 1)
      rw [cut1]
      have s5 : Same H4 (upd H4 p1 (.lst (isV (ch.take (z + 1))))) := same_new np1
      have ep1 : (upd H4 p1 (.lst (isV (ch.take (z + 1))))) p1 = some (.lst (isV (ch.take (z + 1)))) := upd_same
      generalize upd H4 p1 (.lst (isV (ch.take (z + 1)))) = H5 at s5 ep1 ⊢
      refine ⟨_, rfl, by show 1 ≤ sizeLine; decide, fun p2 np2 => ?_⟩
      have s6 : Same H5 (upd H5 p2 (.lst [.int (i : Int)])) := same_new np2
      have ep2 : (upd H5 p2 (.lst [.int (i : Int)])) p2 = some (.lst (isV [(i : Int)])) := upd_same
      generalize upd H5 p2 (.lst [.int (i : Int)]) = H6 at s6 ep2 ⊢
      refine ⟨p1, p2, _, _, rfl, rfl, s6 _ _ ep1, ep2, by rw [isV_len, isV_len, List.length_take]; exact sz_of (by show _ + 1 ≤ _; omega), fun p3 np3 => ?_⟩
      have s7 : Same H6 (upd H6 p3 (.lst (isV (ch.take (z + 1)) ++ isV [(i : Int)]))) := same_new np3
      have ep3 : (upd H6 p3 (.lst (isV (ch.take (z + 1)) ++ isV [(i : Int)]))) p3 = some (.lst (isV (ch.take (z + 1) ++ [(i : Int)]))) := by rw [upd_same, isV_app]
      generalize upd H6 p3 (.lst (isV (ch.take (z + 1)) ++ isV [(i : Int)])) = H7 at s7 ep3 ⊢
      refine ⟨8, rfl, p3, _, rfl, .inl (.inl ep3), fun p4 np4 => ?_⟩
      have cut2 : cutV (isV (ch.take (z + 1) ++ [(i : Int)])) none (some 8) = isV ((ch.take (z + 1) ++ [(i : Int)]).take 8) := by
        rw [← isV_take]
        exact cut_to _ 8
      rw [cut2]
      have s47 := s5.trans (s6.trans s7)
      have s8 : Same H7 (upd H7 p4 (.lst (isV ((ch.take (z + 1) ++ [(i : Int)]).take 8)))) := same_new np4
      have s48 := s47.trans s8
      have hgz : ch[z]? = some (gI ch z) := gI_get hz
      refine ⟨ps ++ [gI ch z], (ch.take (z + 1) ++ [(i : Int)]).take 8, p4, _, _, rfl, b4.trans (but_of s48), e4.same s48, s48 _ _ eL4, upd_same, ne_of_none (s47 _ _ eL4) np4, ((e4.same s47).ne np4).symm, by rw [List.length_append, hl]; rfl, ?_, ?_, ?_⟩
      · rw [← hl]
        exact isPar_next hp hgz
      · rw [List.length_take, List.length_append, List.length_take, List.length_singleton]
        omega
      · rw [List.length_take]
        omega
    · rintro σ H1 ⟨ps, ch, C, y4, y5, rfl, b1, e1, eL, eC, nLC, nCa, hl, hp, hc1, hc2⟩
      exact ⟨_, rfl, q H1 L ps b1 e1 nL eL ⟨hl, ch, hp⟩⟩
end
end K14
set_option maxRecDepth 100000
set_option maxHeartbeats 4000000
namespace K14
open PySem PySem.Spec PyProof.Rows L2
open Fo
section
variable {P : Program} {w : World} {K : PySem.W.Frag} {mg : Str → Option Value} {base : Heap}
theorem sclawsizes : FnScope ["_law_parents_here", "_law_k", "_law_sizes_here"] ["_law_parents_here"] (defScope (topS 45)) := ⟨rfl, rfl, rfl, by decide +kernel, rfl, by decide +kernel, by decide +kernel⟩
theorem ok_law_sizes (T : Top P K mg) : FnOk P w K mg base CX0 1 T.d_law_sizes.f T.d_law_sizes.fd ["_law_parents_here"] (spInts K ParOk sizesOf) := by
  refine T.d_law_sizes.F.ok sclawsizes (fun vs H Q E h => ?_) (fun cdv A outer s H vs Q E hr h => ?_)
  · obtain ⟨a, ps, rfl, _⟩ := h
    rfl
  · obtain ⟨a, ps, rfl, hS, hz, hok, q⟩ := h
    have hlen : (isV ps).length = ps.length := isV_len ps
    refine ⟨_, pss_cons (ps_setLc (i := 2) (own := [("_law_k", 1)]) (g := gName 1) (tt := tYes) rfl sclawsizes.nd rfl rfl (sw_true rfl rfl rfl (by decide +kernel)) (pi_range1 rfl T.z_range (pa_cons (pe_callB call_len_seq rfl T.z_len PySem.boot_len (pa_cons (pv 0) pa_nil)) pa_nil)) (blkOk_by (own := [("_law_k", 1)]) (N := ["_law_parents_here", "_law_k", "_law_sizes_here"]) (sc := defScope (topS 45)) (by decide +kernel)) (fun _ _ _ _ _ => pg_name (i := 1) sclawsizes.nd rfl (.inl rfl)) (fun _ _ _ _ _ => pts_nil) (fun _ _ _ _ _ => pe_int))
      (pss_cons (ps_for PassesOwn.never rfl (pi_revR rfl T.z_reversed (prg_1 rfl T.z_range (pe_callB call_len_seq rfl T.z_len PySem.boot_len (pa_cons (pv 0) pa_nil)))) (pg_name (i := 1) sclawsizes.nd rfl (.inl rfl))
      (pss_one (ps_if (pt_cmpR op_ge (pe_ix ix_list (pv 0) (pv 1) (fun _ _ => rfl)) (pe_int) (nomark _))
      (pss_one (ps_asg (pe_op op_add (pe_ix ix_list (pv 2) (pe_ix ix_list (pv 0) (pv 1) (fun _ _ => rfl)) (fun _ _ => rfl)) (pe_ix ix_list (pv 2) (pv 1) (fun _ _ => rfl))) (pg_sub (pv 2) (pe_ix ix_list (pv 0) (pv 1) (fun _ _ => rfl)) set_list)))
      (pss_nil))))
      (pss_one (ps_ret (pv 2)))), ?_⟩
    refine ⟨_, rfl, a, _, rfl, .inl hS, (ps.length : Int), by rw [isV_len], by omega, by omega, fun D hD => ?_⟩
    rw [Int.toNat_natCast]
    refine lc_it walk_range (fun i H' => Same H H' ∧ H' D = some (.lst (isV (List.replicate i 1)))) ⟨same_new hD, upd_same⟩ (fun _ _ _ _ => trivial) ?_ ?_
    · rintro i x H1 H2 hi ⟨s1, e1⟩ ⟨rfl, _⟩
      refine ⟨rfl, _, e1, ?_, same_set s1 hD, ?_⟩
      · rw [isV_len, List.length_replicate]
        exact sz_lt (by omega)
      · rw [upd_same, ← rep_next, isV_app]
        rfl
    · rintro H1 ⟨s1, e1⟩
      refine ⟨_, rfl, a, _, rfl, .inl (s1.seq hS), ?_⟩
      rw [hlen]
      refine ⟨_, rfl, by decide, by decide, by omega, by omega, ?_⟩
      rw [show (0 : Int) + ((((ps.length : Int) - 0).toNat : Nat) : Int) - 1 = (ps.length : Int) - 1 by omega, show ((ps.length : Int) - 0).toNat = ps.length by omega]
      have ev : ∀ i : Nat, i < ps.length → (ps.length : Int) - 1 + (i : Int) * -1 = ((ps.length - 1 - i : Nat) : Int) := fun i h => by omega
      refine for_it walk_rangeC (fun i σ H' => ∃ y, σ = [some (.ref a), y, some (.ref D)] ∧ Same H H' ∧ H' D = some (.lst (isV ((List.range' (ps.length - i) i).foldr (szStep ps) (List.replicate ps.length 1))))) ⟨none, rfl, s1, e1⟩ (fun _ _ _ _ _ => trivial) ?_ ?_
      · rintro i x σ H2 H3 hi ⟨y, rfl, s2, e2⟩ ⟨rfl, hx⟩
        have hx : x = V.int ((ps.length - 1 - i : Nat) : Int) := Eq.trans hx (congrArg V.int (ev i hi))
        subst hx
        generalize hS2 : (List.range' (ps.length - i) i).foldr (szStep ps) (List.replicate ps.length 1) = S at e2
        have lS : S.length = ps.length := by rw [← hS2, szFold_len, List.length_replicate]
        have nx : (List.range' (ps.length - (i + 1)) (i + 1)).foldr (szStep ps) (List.replicate ps.length 1) = szStep ps (ps.length - 1 - i) S := by rw [range_back _ _ hi, List.foldr_cons, hS2]
        have hk : ps.length - 1 - i < ps.length := by omega
        have hpk := hok _ hk
        rw [nx]
        generalize ps.length - 1 - i = k at hk hpk ⊢
        refine ⟨.ref a, rfl, _, rfl, a, _, _, _, rfl, rfl, s2.seq hS, atV rfl hk, _, 0, rfl, rfl, _, rfl, ?_⟩
        unfold szStep
        by_cases h0 : (0 : Int) ≤ gI ps k
        · rw [decide_eq_true h0, if_pos h0]
          have hj : (gI ps k).toNat < S.length := by omega
          refine ⟨.ref D, rfl, .ref a, rfl, _, rfl, a, _, _, _, rfl, rfl, s2.seq hS, atV rfl hk, D, _, _, _, rfl, rfl, .inl (.inl e2), atV (by omega) hj, .ref D, rfl, _, rfl, D, _, _, _, rfl, rfl, .inl (.inl e2), atV rfl (by omega), _, _, rfl, rfl, ?_⟩
          refine ⟨.ref D, rfl, .ref a, rfl, _, rfl, a, _, _, _, rfl, rfl, s2.seq hS, atV rfl hk, D, _, _, _, rfl, rfl, e2, ixN_nat (j := (gI ps k).toNat) (by omega) (by rw [isV_len]; exact hj), ?_⟩
          refine ⟨_, rfl, same_set s2 hD, ?_⟩
          rw [upd_same, isV_set]
        · rw [decide_eq_false h0, if_neg h0]
          exact ⟨_, rfl, s2, e2⟩
      · rintro σ H2 ⟨y, rfl, s2, e2⟩
        rw [Nat.sub_self, ← List.range_eq_range'] at e2
        exact ⟨_, rfl, q H2 D s2 hD e2⟩
theorem sclawdepths : FnScope ["_law_parents_here", "_law_depths_here", "_law_k"] ["_law_parents_here"] (defScope (topS 46)) := ⟨rfl, rfl, rfl, by decide +kernel, rfl, by decide +kernel, by decide +kernel⟩
theorem ok_law_depths (T : Top P K mg) : FnOk P w K mg base CX0 1 T.d_law_depths.f T.d_law_depths.fd ["_law_parents_here"] (spInts K ParOk levelsOf) := by
  refine T.d_law_depths.F.ok sclawdepths (fun vs H Q E h => ?_) (fun cdv A outer s H vs Q E hr h => ?_)
  · obtain ⟨a, ps, rfl, _⟩ := h
    rfl
  · obtain ⟨a, ps, rfl, hS, hz, hok, q⟩ := h
    refine ⟨_, pss_cons (ps_set (i := 1) sclawdepths.nd rfl (.inl rfl) (pe_lst (pa_nil)))
      (pss_cons (ps_for PassesOwn.never rfl (pi_range1 rfl T.z_range (pa_cons (pe_callB call_len_seq rfl T.z_len PySem.boot_len (pa_cons (pv 0) pa_nil)) pa_nil)) (pg_name (i := 2) sclawdepths.nd rfl (.inl rfl))
      (pss_cons (ps_expr (pe_bm PySem.F.plainAttrs_list PySem.F.slot_list_append PySem.F.type_list_append mt_append (pv 1) (pa_cons (pe_int) pa_nil)))
      (pss_one (ps_if (pt_cmpR op_ge (pe_ix ix_list (pv 0) (pv 2) (fun _ _ => rfl)) (pe_int) (nomark _))
      (pss_one (ps_asg (pe_op op_add (pe_ix ix_list (pv 1) (pe_ix ix_list (pv 0) (pv 2) (fun _ _ => rfl)) (fun _ _ => rfl)) (pe_int)) (pg_sub (pv 1) (pv 2) set_list)))
      (pss_nil)))))
      (pss_one (ps_ret (pv 1)))), ?_⟩
    refine ⟨Nat.zero_le _, fun D hD => ?_⟩
    refine ⟨_, rfl, a, _, rfl, .inl ((same_new hD).seq hS), (ps.length : Int), by rw [isV_len], by omega, by omega, ?_⟩
    rw [Int.toNat_natCast]
    refine for_it walk_range (fun i σ H' => ∃ y, σ = [some (.ref a), some (.ref D), y] ∧ Same H H' ∧ H' D = some (.lst (isV (levelsOf (ps.take i))))) ⟨none, rfl, same_new hD, upd_same⟩ (fun _ _ _ _ _ => trivial) ?_ ?_
    · rintro i x σ H2 H3 hi ⟨y, rfl, s2, e2⟩ ⟨rfl, hx⟩
      have hx : x = V.int (i : Int) := hx.trans (by show V.int (0 + (i : Int)) = _; rw [Int.zero_add])
      subst hx
      have hp := gI_get hi
      have lt := hok i hi
      have ll : (levelsOf (ps.take i)).length = i := by rw [levelsOf_len, List.length_take]; omega
      refine ⟨_, rfl, .inl ⟨rfl, _, .inl (.inl e2)⟩, D, _, _, rfl, rfl, e2, by rw [isV_len, ll]; exact sz_lt (by omega), ?_⟩
      have s3 := same_set s2 hD (o := .lst (isV (levelsOf (ps.take i)) ++ [.int 0]))
      have e3 : (upd H3 D (.lst (isV (levelsOf (ps.take i)) ++ [.int 0]))) D = some (.lst (isV (levelsOf (ps.take i) ++ [0]))) := by rw [upd_same, isV_app]; rfl
      generalize upd H3 D (.lst (isV (levelsOf (ps.take i)) ++ [.int 0])) = H4 at s3 e3 ⊢
      refine ⟨.ref a, rfl, _, rfl, a, _, _, _, rfl, rfl, s3.seq hS, atV rfl hi, _, 0, rfl, rfl, _, rfl, ?_⟩
      by_cases h0 : (0 : Int) ≤ gI ps i
      · rw [decide_eq_true h0]
        have hj : (gI ps i).toNat < (levelsOf (ps.take i)).length := by omega
        refine iteT ⟨_, rfl, _, rfl, _, rfl, a, _, _, _, rfl, rfl, s3.seq hS, atV rfl hi, D, _, _, _, rfl, rfl, .inl (.inl e3), atV (j := (gI ps i).toNat) (by omega) (by rw [List.length_append]; omega), _, _, rfl, rfl, ?_⟩
        refine ⟨_, rfl, _, rfl, D, _, _, _, rfl, rfl, e3, ixN_nat (j := i) rfl (by rw [isV_len, List.length_append, ll]; exact Nat.lt_succ_self _), ?_⟩
        refine ⟨_, rfl, same_set s3 hD, ?_⟩
        rw [upd_same, isV_set, levelsOf_next hp]
        have e : (levelsOf (ps.take i) ++ [0]).set i (gI (levelsOf (ps.take i) ++ [0]) (gI ps i).toNat + 1) = levelsOf (ps.take i) ++ [lvNext (levelsOf (ps.take i)) (gI ps i)] := by
          rw [gI_left hj, List.set_append_right _ _ (by omega), ll, Nat.sub_self]
          unfold lvNext
          rw [if_neg (by omega)]
          rfl
        rw [e]
      · rw [decide_eq_false h0]
        refine iteF ⟨_, rfl, s3, ?_⟩
        rw [e3, levelsOf_next hp]
        unfold lvNext
        rw [if_pos (by omega)]
    · rintro σ H2 ⟨y, rfl, s2, e2⟩
      rw [List.take_length] at e2
      exact ⟨_, rfl, q H2 D s2 hD e2⟩
theorem sclawposts : FnScope ["_law_parents_here", "_law_sizes_here", "_law_depths_here", "_law_k"] ["_law_parents_here"] (defScope (topS 47)) := ⟨rfl, rfl, rfl, by decide +kernel, rfl, by decide +kernel, by decide +kernel⟩
theorem ok_law_posts (T : Top P K mg) : FnOk P w K mg base CX0 2 T.d_law_posts.f T.d_law_posts.fd ["_law_parents_here"] (spInts K ParOk fun ps => postsOf (sizesOf ps) (levelsOf ps) ps.length) := by
  refine T.d_law_posts.F.ok sclawposts (fun vs H Q E h => ?_) (fun cdv A outer s H vs Q E hr h => ?_)
  · obtain ⟨a, ps, rfl, _⟩ := h
    rfl
  · obtain ⟨a, ps, rfl, hS, hz, hok, q⟩ := h
    refine ⟨_, pss_cons (ps_set (i := 1) sclawposts.nd rfl (.inr rfl) (pe_call (ok_law_sizes T) (hr.mono (by omega)) rfl T.d_law_sizes.g T.d_law_sizes.F.kp T.d_law_sizes.b .nil pass0 (pa_cons (pv 0) pa_nil)))
      (pss_cons (ps_set (i := 2) sclawposts.nd rfl (.inr rfl) (pe_call (ok_law_depths T) (hr.mono (by omega)) rfl T.d_law_depths.g T.d_law_depths.F.kp T.d_law_depths.b .nil pass0 (pa_cons (pv 0) pa_nil)))
      (pss_one (ps_ret (pe_lc (own := [("_law_k", 3)]) (g := gName 3) (tt := tYes) rfl sclawposts.nd (pi_range1 rfl T.z_range (pa_cons (pe_callB call_len_seq rfl T.z_len PySem.boot_len (pa_cons (pv 0) pa_nil)) pa_nil)) (blkOk_by (own := [("_law_k", 3)]) (N := ["_law_parents_here", "_law_sizes_here", "_law_depths_here", "_law_k"]) (sc := defScope (topS 47)) (by decide +kernel)) (fun _ _ _ _ _ => pg_name (i := 3) sclawposts.nd rfl (.inl rfl)) (fun _ _ _ _ _ => pts_nil) (fun _ _ _ _ _ => pe_op op_sub (pe_op op_add (pe_op op_sub (pv 3) (pe_ix (ixL (K := K) rfl) (pv 2) (pv 3) (fun _ _ => rfl))) (pe_ix (ixL (K := K) rfl) (pv 1) (pv 3) (fun _ _ => rfl))) (pe_int)))))), ?_⟩
    refine ⟨_, rfl, a, ps, rfl, hS, hz, hok, fun H1 ls s1 _ es => ⟨_, rfl, a, ps, rfl, s1.seq hS, hz, hok, fun H2 ll s2 _ el => ?_⟩⟩
    have hS2 : SqL K H2 a (isV ps) := (s1.trans s2).seq hS
    have es2 := s2 _ _ es
    refine ⟨_, rfl, a, _, rfl, .inl hS2, (ps.length : Int), by rw [isV_len], by omega, by omega, fun D hD => ?_⟩
    rw [Int.toNat_natCast]
    refine lc_it walk_range (fun i H' => Same H2 H' ∧ H' D = some (.lst (isV ((List.range i).map fun k : Nat => (k : Int) + gI (sizesOf ps) k - 1 - gI (levelsOf ps) k)))) ⟨same_new hD, upd_same⟩ (fun _ _ _ _ => trivial) ?_ ?_
    · rintro i x H3 H4 hi ⟨s3, e3⟩ ⟨rfl, hx⟩
      have hx : x = V.int (i : Int) := hx.trans (by show V.int (0 + (i : Int)) = _; rw [Int.zero_add])
      subst hx
      refine ⟨rfl, _, rfl, _, rfl, _, rfl, ll, _, _, _, rfl, rfl, .inl (.inl (s3 _ _ el)), atV rfl (by rw [levelsOf_len]; exact hi), _, _, rfl, rfl, _, rfl, _, rfl, ls, _, _, _, rfl, rfl, .inl (.inl (s3 _ _ es2)), atV rfl (by rw [sizesOf_len]; exact hi), _, _, rfl, rfl, _, _, rfl, rfl, _, e3, ?_, same_set s3 hD, ?_⟩
      · rw [isV_len, List.length_map, List.length_range]
        exact sz_lt (by omega)
      · rw [upd_same, List.range_succ, List.map_append, isV_app]
        have e : (i : Int) - gI (levelsOf ps) i + gI (sizesOf ps) i - 1 = (i : Int) + gI (sizesOf ps) i - 1 - gI (levelsOf ps) i := by omega
        show some (HO.lst (_ ++ [V.int ((i : Int) - gI (levelsOf ps) i + gI (sizesOf ps) i - 1)])) = _
        rw [e]
        rfl
    · rintro H3 ⟨s3, e3⟩
      exact q H3 D ((s1.trans s2).trans s3) ((s1.trans s2).free hD) e3
theorem sclawprice : FnScope ["_law_box_here", "_law_kind"] ["_law_box_here"] (defScope (topS 48)) := ⟨rfl, rfl, rfl, by decide +kernel, rfl, by decide +kernel, by decide +kernel⟩
def spPriceD : Sp := fun vs H Q _ => ∃ a, vs = [.ref a] ∧ BoxAt H a ∧ ∀ (z : Nat) H', But1 a H H' → BoxAt H' a → Q (.int (z : Int)) H'
theorem ok_law_price (T : Top P K mg) : FnOk P w K mg base CX0 3 T.d_law_price.f T.d_law_price.fd ["_law_box_here"] spPriceD := by
  refine T.d_law_price.F.ok sclawprice (fun vs H Q E h => ?_) (fun cdv A outer s H vs Q E hr h => ?_)
  · obtain ⟨a, rfl, _⟩ := h
    rfl
  · obtain ⟨a, rfl, hb, q⟩ := h
    refine ⟨_, pss_cons (ps_set (i := 1) sclawprice.nd rfl (.inl rfl) (pe_call (ok_law_draw T) (hr.mono (by omega)) rfl T.d_law_draw.g T.d_law_draw.F.kp T.d_law_draw.b .nil pass0 (pa_cons (pv 0) (pa_cons (pe_int) pa_nil))))
      (pss_cons (ps_if (pt_cmpR op_eq (pv 1) (pe_int) (nomark _))
      (pss_one (ps_ret (pe_call (ok_law_draw T) (hr.mono (by omega)) rfl T.d_law_draw.g T.d_law_draw.F.kp T.d_law_draw.b .nil pass0 (pa_cons (pv 0) (pa_cons (pe_int) pa_nil)))))
      (pss_nil))
      (pss_one (ps_ret (pe_call (ok_law_draw T) (hr.mono (by omega)) rfl T.d_law_draw.g T.d_law_draw.F.kp T.d_law_draw.b .nil pass0 (pa_cons (pv 0) (pa_cons (pe_ix ix_list (pe_lst (pa_cons (pe_int) (pa_cons (pe_int) pa_nil))) (pe_op op_sub (pv 1) (pe_int)) (fun _ _ => rfl)) pa_nil)))))), ?_⟩
    refine ⟨_, rfl, a, 3, rfl, hb, by decide, by decide, fun z H1 hz b1 e1 => ⟨_, rfl, rfl, _, rfl, ?_⟩⟩
    rw [dec_nat0]
    by_cases h0 : z = 0
    · rw [decide_eq_true h0]
      exact iteT ⟨_, rfl, a, 1000, rfl, e1, by decide, by decide, fun y H2 hy b2 e2 => q y H2 (b1.trans b2) e2⟩
    · rw [decide_eq_false h0]
      refine iteF ⟨_, rfl, by show 2 ≤ sizeLine; decide, fun D nD => ?_⟩
      have nDa := (e1.ne nD).symm
      have e2 := e1.same (same_new nD (o := .lst [.int 3, .int 12]))
      have ed : (upd H1 D (.lst [.int 3, .int 12])) D = some (.lst (isV [3, 12])) := upd_same
      have b2 := b1.trans (but_of (same_new nD (o := .lst [.int 3, .int 12])))
      generalize upd H1 D (.lst [.int 3, .int 12]) = H2 at e2 ed b2 ⊢
      refine ⟨_, rfl, _, _, rfl, rfl, D, _, _, _, rfl, rfl, .inl (.inl ed), atV (j := z - 1) (by omega) (by show z - 1 < 2; omega), ?_⟩
      rcases (show z = 1 ∨ z = 2 by omega) with e | e
      · subst e
        exact ⟨a, 3, rfl, e2, by decide, by decide, fun y H3 hy b3 e3 => q y H3 (b2.trans b3) e3⟩
      · subst e
        exact ⟨a, 12, rfl, e2, by decide, by decide, fun y H3 hy b3 e3 => q y H3 (b2.trans b3) e3⟩
end
end K14
set_option maxRecDepth 100000
set_option maxHeartbeats 4000000
namespace K14
open PySem PySem.Spec PyProof.Rows L2
open Fo
theorem par_ge {W : Type} : ∀ (F : Fo W) (p : Int) (q : Nat), -1 ≤ p → ∀ z ∈ prw (parF p q F), -1 ≤ z
  | .nil, _, _, _, _, h => by cases h
  | .snoc r w c, p, q, hp, z, h => by
    rcases List.mem_append.mp (show z ∈ prw (parF p q r) ++ p :: prw (parF ((q + r.size : Nat) : Int) (q + r.size + 1) c) from h) with h | h
    · exact par_ge r p q hp z h
    · rcases List.mem_cons.mp h with h | h
      · rw [h]
        exact hp
      · exact par_ge c _ _ (by omega) z h
/-! ### rows of data on top of a heap of data that stays -/
structure RowsD (K : PySem.W.Frag) (Hd H : Hp) (R : Addr) (rs : List Addr) (Rw : Nat → List PyData) : Prop where
  s : Same Hd H
  h : H R = some (.lst (rs.map V.ref))
  hR : Hd R = none
  nd : rs.Nodup
  nR : ¬ R ∈ rs
  hr : ∀ r ∈ rs, Hd r = none
  at_ : ∀ (i : Nat) (r : Addr), rs[i]? = some r → ∃ us, H r = some (.lst us) ∧ DpAll K Hd us (Rw i)
section
variable {K : PySem.W.Frag} {Hd H H' : Hp} {R : Addr} {rs : List Addr} {Rw : Nat → List PyData}
theorem RowsD.fr (h : RowsD K Hd H R rs Rw) {p : Addr} (n : H p = none) : Hd p = none := h.s.free n
theorem RowsD.ne (h : RowsD K Hd H R rs Rw) {p : Addr} (n : H p = none) : p ≠ R ∧ ¬ p ∈ rs := by
  refine ⟨fun e => (by rw [e, h.h] at n; cases n), fun m => ?_⟩
  obtain ⟨i, hi⟩ := List.getElem?_of_mem m
  obtain ⟨us, e, _⟩ := h.at_ i p hi
  rw [e] at n
  cases n
theorem RowsD.new (h : RowsD K Hd H R rs Rw) {p : Addr} {o : HO} (n : H p = none) : RowsD K (upd Hd p o) (upd H p o) R rs Rw := by
  have nd := h.fr n
  obtain ⟨n1, n2⟩ := h.ne n
  refine ⟨fun b u e => ?_, (same_new n) _ _ h.h, by rw [upd_ne (Ne.symm n1)]; exact h.hR, h.nd, h.nR, fun r m => by rw [upd_ne (fun e : r = p => n2 (e ▸ m))]; exact h.hr r m, fun i r e => ?_⟩
  · by_cases hb : b = p
    · subst hb
      rw [upd_same] at e ⊢
      exact e
    · rw [upd_ne hb] at e ⊢
      exact h.s _ _ e
  · obtain ⟨us, e1, e2⟩ := h.at_ i r e
    exact ⟨us, (same_new n) _ _ e1, dps_same (same_new nd) e2⟩
theorem RowsD.put (h : RowsD K Hd H R rs Rw) {j : Nat} {r : Addr} (hj : rs[j]? = some r) {us : List V} {ds : List PyData} (hd : DpAll K Hd us ds) : RowsD K Hd (upd H r (.lst us)) R rs (fun i => if i = j then ds else Rw i) := by
  have m := List.mem_of_getElem? hj
  refine ⟨fun b u e => ?_, by rw [upd_ne (fun e : R = r => h.nR (e ▸ m))]; exact h.h, h.hR, h.nd, h.nR, h.hr, fun i q e => ?_⟩
  · rw [upd_ne (fun z => by rw [z, h.hr r m] at e; cases e)]
    exact h.s _ _ e
  · by_cases hi : i = j
    · subst hi
      rw [hj] at e
      cases e
      exact ⟨us, upd_same, by rw [if_pos rfl]; exact hd⟩
    · obtain ⟨us', e1, e2⟩ := h.at_ i q e
      refine ⟨us', ?_, by rw [if_neg hi]; exact e2⟩
      rw [upd_ne]
      · exact e1
      · intro z
        subst z
        obtain ⟨l1, g1⟩ := List.getElem?_eq_some_iff.mp e
        obtain ⟨l2, g2⟩ := List.getElem?_eq_some_iff.mp hj
        exact hi ((List.getElem_inj h.nd).mp (g1.trans g2.symm))
theorem RowsD.but (h : RowsD K Hd H R rs Rw) {a : Addr} (b : But1 a H H') (n : Hd a = none) (n1 : R ≠ a) (n2 : ¬ a ∈ rs) : RowsD K Hd H' R rs Rw :=
  ⟨fun c o e => b _ _ (h.s _ _ e) (ne_of_none e n), b _ _ h.h n1, h.hR, h.nd, h.nR, h.hr, fun i r e => by
    obtain ⟨us, e1, e2⟩ := h.at_ i r e
    exact ⟨us, b _ _ e1 (fun z => n2 (z ▸ List.mem_of_getElem? e)), e2⟩⟩
end
/-! ### what the rows come to -/
def mkT (ws : List Str) (k : Nat) (cs : List PyData) : PyData := .tuple [.str (ws.getD k (PySem.Str.ofString "")), .tuple cs]
theorem get_mid2 {ws A B : List Str} {x : Str} {q : Nat} (e : ws = A ++ x :: B) (h : A.length = q) : ws.getD q (PySem.Str.ofString "") = x := by
  rw [List.getD_eq_getElem?_getD, e, get_mid h]
  rfl
theorem comb_enc (ws : List Str) : ∀ (F : Fo Str) (q : Nat) (A B : List Str) (acc : List PyData), ws = A ++ (prw F ++ B) → A.length = q → comb (mkT ws) (fun t l => t :: l) (numb q F) acc = encL F ++ acc
  | .nil, _, _, _, _, _, _ => rfl
  | .snoc r w c, q, A, B, acc, e, h => by
    have e : ws = A ++ ((prw r ++ w :: prw c) ++ B) := e
    show comb (mkT ws) _ (numb q r) (mkT ws ((q + r.size : Nat) : Int).toNat (comb (mkT ws) _ (numb (q + r.size + 1) c) []) :: acc) = (encL r ++ [.tuple [.str w, .tuple (encL c)]]) ++ acc
    rw [comb_enc ws r q A (w :: prw c ++ B) _ (by rw [e]; simp) h, comb_enc ws c (q + r.size + 1) (A ++ prw r ++ [w]) B [] (by rw [e]; simp) (by simp [prw_len]; omega), List.append_nil, Int.toNat_natCast]
    unfold mkT
    rw [get_mid2 (A := A ++ prw r) (B := prw c ++ B) (x := w) (by rw [e]; simp) (by simp [prw_len]; omega), List.append_assoc]
    rfl
theorem encL_app : ∀ a b : Fo Str, encL (app a b) = encL a ++ encL b
  | a, .nil => by rw [app_nil]; show _ = encL a ++ []; rw [List.append_nil]
  | a, .snoc r w c => by
    rw [app_snoc]
    show encL (app a r) ++ _ = encL a ++ (encL r ++ _)
    rw [encL_app a r, List.append_assoc]
theorem comb_mir (ws : List Str) : ∀ (F : Fo Str) (q : Nat) (A B : List Str) (acc : List PyData), ws = A ++ (prw F ++ B) → A.length = q → comb (mkT ws) (fun t l => l ++ [t]) (numb q F) acc = acc ++ encL (mir F)
  | .nil, _, _, _, acc, _, _ => by
    show acc = acc ++ []
    rw [List.append_nil]
  | .snoc r w c, q, A, B, acc, e, h => by
    have e : ws = A ++ ((prw r ++ w :: prw c) ++ B) := e
    show comb (mkT ws) _ (numb q r) (acc ++ [mkT ws ((q + r.size : Nat) : Int).toNat (comb (mkT ws) _ (numb (q + r.size + 1) c) [])]) = acc ++ encL (app (snoc nil w (mir c)) (mir r))
    rw [comb_mir ws r q A (w :: prw c ++ B) _ (by rw [e]; simp) h, comb_mir ws c (q + r.size + 1) (A ++ prw r ++ [w]) B [] (by rw [e]; simp) (by simp [prw_len]; omega), List.nil_append, Int.toNat_natCast, encL_app]
    unfold mkT
    rw [get_mid2 (A := A ++ prw r) (B := prw c ++ B) (x := w) (by rw [e]; simp) (by simp [prw_len]; omega), List.append_assoc]
    rfl
theorem at_row {rs : List Addr} {n : Nat} {p : Int} (hl : rs.length = n + 1) (h1 : -1 ≤ p) (h2 : p < n) : ∃ r, rs[rowIx n p]? = some r ∧ atI (rs.map V.ref) p = some (.ref r) := by
  have hlt : rowIx n p < rs.length := by unfold rowIx; split <;> omega
  refine ⟨rs[rowIx n p], List.getElem?_eq_getElem hlt, ?_⟩
  by_cases h : p < 0
  · have e : p = -1 := by omega
    subst e
    have e2 : rowIx n (-1) = n := rfl
    unfold atI
    have e3 : ixN (n + 1) (-1) = some n := by
      unfold ixN
      rw [if_neg (by omega), if_pos (by omega)]
      congr 1
      omega
    rw [List.length_map]
    simp only [e2, hl] at hlt ⊢
    rw [e3]
    show (rs.map V.ref)[n]? = _
    rw [List.getElem?_map, List.getElem?_eq_getElem (by omega)]
    rfl
  · have e2 : rowIx n p = p.toNat := by unfold rowIx; rw [if_neg h]
    simp only [e2] at hlt ⊢
    exact at_of (j := p.toNat) (by omega) (by rw [List.getElem?_map, List.getElem?_eq_getElem hlt]; rfl)
end K14
set_option maxRecDepth 100000
set_option maxHeartbeats 4000000
namespace K14
open PySem PySem.Spec PyProof.Rows L2
open Fo
section
variable {P : Program} {w : World} {K : PySem.W.Frag} {mg : Str → Option Value} {base : Heap}
def spForestD (K : PySem.W.Frag) (f : Fo Str → PyData) : Sp := fun vs H Q _ => ∃ lw lp F, vs = [.ref lw, .ref lp] ∧ SqL K H lw (ssV (prw F)) ∧ SqL K H lp (isV (prw (parF (-1) 0 F))) ∧ F.size ≤ 100 ∧ ∀ H' v, Same H H' → Dp K H' v (f F) → Q v H'
theorem RowsD.cong {K : PySem.W.Frag} {Hd H : Hp} {R : Addr} {rs : List Addr} {Rw Rw' : Nat → List PyData} (h : RowsD K Hd H R rs Rw) (e : ∀ j, Rw j = Rw' j) : RowsD K Hd H R rs Rw' := by
  have e : Rw = Rw' := funext e
  rw [← e]
  exact h
theorem sclawforest : FnScope ["_law_words", "_law_parents_here", "_law_k", "_law_rows", "_law_row"] ["_law_words", "_law_parents_here"] (defScope (topS 44)) := ⟨rfl, rfl, rfl, by decide +kernel, rfl, by decide +kernel, by decide +kernel⟩
theorem ok_law_forest (T : Top P K mg) : FnOk P w K mg base CX0 1 T.d_law_forest.f T.d_law_forest.fd ["_law_words", "_law_parents_here"] (spForestD K enc) := by
  refine T.d_law_forest.F.ok sclawforest (fun vs H Q E h => ?_) (fun cdv A outer s H vs Q E hr h => ?_)
  · obtain ⟨lw, lp, F, rfl, _⟩ := h
    rfl
  · obtain ⟨lw, lp, F, rfl, hW, hP, hF, q⟩ := h
    refine ⟨_, pss_cons (ps_setLc (i := 3) (own := [("_law_k", 2)]) (g := gName 2) (tt := tYes) rfl sclawforest.nd rfl rfl (sw_true rfl rfl rfl (by decide +kernel)) (pi_range1 rfl T.z_range (pa_cons (pe_op op_add (pe_callB call_len_seq rfl T.z_len PySem.boot_len (pa_cons (pv 0) pa_nil)) (pe_int)) pa_nil)) (blkOk_by (own := [("_law_k", 2)]) (N := ["_law_words", "_law_parents_here", "_law_k", "_law_rows", "_law_row"]) (sc := defScope (topS 44)) (by decide +kernel)) (fun _ _ _ _ _ => pg_name (i := 2) sclawforest.nd rfl (.inl rfl)) (fun _ _ _ _ _ => pts_nil) (fun _ _ _ _ _ => pe_lst (pa_nil)))
      (pss_cons (ps_for PassesOwn.never rfl (pi_revR rfl T.z_reversed (prg_1 rfl T.z_range (pe_callB call_len_seq rfl T.z_len PySem.boot_len (pa_cons (pv 0) pa_nil)))) (pg_name (i := 2) sclawforest.nd rfl (.inl rfl))
      (pss_cons (ps_set (i := 4) sclawforest.nd rfl (.inl rfl) (pe_ix ix_list (pv 3) (pe_ix ix_list (pv 1) (pv 2) (fun _ _ => rfl)) (fun _ _ => rfl)))
      (pss_one (ps_expr (pe_bm PySem.F.plainAttrs_list PySem.F.slot_list_insert PySem.F.type_list_insert mt_insert (pv 4) (pa_cons (pe_int) (pa_cons (pe_tup (pa_cons (pe_ix ix_list (pv 0) (pv 2) (fun _ _ => rfl)) (pa_cons (pe_callTy call_tuple_of rfl T.z_tuple (by decide +kernel) (pa_cons (pe_ix ix_list (pv 3) (pv 2) (fun _ _ => rfl)) pa_nil)) pa_nil))) pa_nil)))))))
      (pss_one (ps_ret (pe_callTy call_tuple_of rfl T.z_tuple (by decide +kernel) (pa_cons (pe_ix ix_list (pv 3) (pe_callB call_len_seq rfl T.z_len PySem.boot_len (pa_cons (pv 0) pa_nil)) (fun _ _ => rfl)) pa_nil))))), ?_⟩
    have hn : (ssV (prw F)).length = F.size := by rw [ssV_len, prw_len]
    have hpl : (prw (parF (-1) 0 F)).length = F.size := by rw [prw_len, parF_size]
    have hok := parOk F
    have hge : ∀ k, k < F.size → -1 ≤ gI (prw (parF (-1) 0 F)) k := fun k hk => par_ge F (-1) 0 (by omega) _ (gI_mem (by omega))
    generalize hps : prw (parF (-1) 0 F) = ps at hP hpl hok hge
    refine ⟨_, rfl, lw, _, rfl, .inl hW, _, _, rfl, rfl, ((F.size + 1 : Nat) : Int), by rw [hn]; rfl, by omega, by omega, fun R nR => ?_⟩
    rw [Int.toNat_natCast]
    refine lc_it walk_range (fun i H' => ∃ rs : List Addr, rs.length = i ∧ Same H H' ∧ H' R = some (.lst (rs.map V.ref)) ∧ rs.Nodup ∧ ¬ R ∈ rs ∧ ∀ r ∈ rs, H r = none ∧ H' r = some (.lst [])) ⟨[], rfl, same_new nR, upd_same, List.nodup_nil, (fun h => nomatch h), fun _ h => nomatch h⟩ (fun _ _ _ _ => trivial) ?_ ?_
    · rintro i x H1 H2 hi ⟨rs, hl, s1, eR, nd, nRs, ha⟩ ⟨rfl, _⟩
      refine ⟨rfl, Nat.zero_le _, fun p np => ⟨_, same_new np _ _ eR, by rw [List.length_map, hl]; exact sz_lt (by omega), rs ++ [p], by rw [List.length_append, hl]; rfl, same_set (s1.trans (same_new np)) nR, by rw [upd_same, List.map_append]; rfl, ?_, ?_, ?_⟩⟩
      · refine List.nodup_append.mpr ⟨nd, List.nodup_cons.mpr ⟨by simp, List.nodup_nil⟩, fun a h b hb e => ?_⟩
        have := (ha a h).2
        rw [e, List.mem_singleton.mp hb, np] at this
        cases this
      · intro h
        rcases List.mem_append.mp h with h | h
        · exact nRs h
        · rw [List.mem_singleton.mp h, np] at eR
          cases eR
      · intro r h
        rcases List.mem_append.mp h with h | h
        · refine ⟨(ha r h).1, ?_⟩
          rw [upd_ne (fun e : r = R => nRs (e ▸ h))]
          exact same_new np _ _ (ha r h).2
        · rw [List.mem_singleton.mp h]
          exact ⟨s1.free np, by rw [upd_ne (fun e : p = R => by rw [e, eR] at np; cases np), upd_same]⟩
    rintro H1 ⟨rs, hl, s1, eR, nd, nRs, ha⟩
    refine ⟨_, rfl, lw, _, rfl, .inl (s1.seq hW), ?_⟩
    rw [hn]
    refine ⟨_, rfl, by decide, by decide, by omega, by omega, ?_⟩
    rw [show (0 : Int) + ((((F.size : Int) - 0).toNat : Nat) : Int) - 1 = (F.size : Int) - 1 by omega, show ((F.size : Int) - 0).toNat = F.size by omega]
    have ev : ∀ i : Nat, i < F.size → (F.size : Int) - 1 + (i : Int) * -1 = ((F.size - 1 - i : Nat) : Int) := fun i h => by omega
    refine for_it walk_rangeC (fun i σ H' => ∃ y2 y4 Hd, σ = [some (.ref lw), some (.ref lp), y2, some (.ref R), y4] ∧ Same H H' ∧ RowsD K Hd H' R rs ((List.range' (F.size - i) i).foldr (rowStep (mkT (prw F)) (fun t l => t :: l) ps F.size) (fun _ => [])) ∧ ∀ j, ((List.range' (F.size - i) i).foldr (rowStep (mkT (prw F)) (fun t l => t :: l) ps F.size) (fun _ => []) j).length ≤ i)
      ⟨none, none, fun _ => none, rfl, s1, ⟨(fun _ _ h => nomatch h), eR, rfl, nd, nRs, (fun _ _ => rfl), fun i r e => ⟨[], (ha r (List.mem_of_getElem? e)).2, .nil⟩⟩, fun _ => Nat.le_refl _⟩ (fun _ _ _ _ _ => trivial) ?_ ?_
    · rintro i x σ H3 H2 hi ⟨y2, y4, Hd, rfl, s3, hR, hlen⟩ ⟨rfl, hx⟩
      have hx : x = V.int ((F.size - 1 - i : Nat) : Int) := Eq.trans hx (congrArg V.int (ev i hi))
      subst hx
      have hk : F.size - 1 - i < F.size := by omega
      rw [range_back _ _ hi, List.foldr_cons]
      generalize (List.range' (F.size - i) i).foldr (rowStep (mkT (prw F)) (fun t l => t :: l) ps F.size) (fun _ => []) = Rw at hR hlen
      generalize F.size - 1 - i = k at hk ⊢
      have hpk := hok k (by omega)
      obtain ⟨r, er, ar⟩ := at_row (p := gI ps k) hl (hge k hk) (by omega)
      obtain ⟨rk, erk, ark⟩ := at_row (p := (k : Int)) hl (by omega) (by omega)
      have ek : rowIx F.size (k : Int) = k := by unfold rowIx; rw [if_neg (by omega)]; rfl
      rw [ek] at erk
      refine ⟨_, rfl, _, rfl, _, rfl, lp, _, _, _, rfl, rfl, s3.seq hP, atV rfl (by omega), R, _, _, .ref r, rfl, rfl, .inl (.inl hR.h), ar, ?_⟩
      obtain ⟨us, hus, dus⟩ := hR.at_ _ r er
      obtain ⟨uk, huk, duk⟩ := hR.at_ _ rk erk
      refine ⟨_, rfl, .inl ⟨rfl, _, .inl (.inl hus)⟩, _, rfl, _, rfl, lw, _, _, _, rfl, rfl, s3.seq hW, atI_nat (ssV_at (get_D (a := prw F) (by rw [prw_len]; exact hk))), _, rfl, _, rfl, R, _, _, .ref rk, rfl, rfl, .inl (.inl hR.h), ark, rk, uk, rfl, .inl ⟨.inl (.inl huk), fun p1 np1 => ⟨by show 2 ≤ sizeLine; decide, fun p2 np2 => ?_⟩⟩⟩
      have hR1 := hR.new np1 (o := .tup uk)
      have hR2 := hR1.new np2 (o := .tup [.str ((prw F).getD k (PySem.Str.ofString "")), .ref p1])
      have s4 : Same H2 (upd (upd H2 p1 (.tup uk)) p2 (.tup [.str ((prw F).getD k (PySem.Str.ofString "")), .ref p1])) := (same_new np1).trans (same_new np2)
      have f1 : Same Hd (upd Hd p1 (.tup uk)) := same_new (hR.fr np1)
      have f2 : Same (upd Hd p1 (.tup uk)) (upd (upd Hd p1 (.tup uk)) p2 (.tup [.str ((prw F).getD k (PySem.Str.ofString "")), .ref p1])) := same_new (hR1.fr np2)
      have d1 : Dp K (upd (upd Hd p1 (.tup uk)) p2 (.tup [.str ((prw F).getD k (PySem.Str.ofString "")), .ref p1])) (.ref p2) (mkT (prw F) k (Rw k)) := .tup (.inl (.inl upd_same)) (.cons (.str _) (.cons (.tup (.inl (.inl (f2 _ _ upd_same))) (dps_same (f1.trans f2) duk)) .nil))
      have hul := dpAll_len dus
      have hln := hlen (rowIx F.size (gI ps k))
      refine ⟨r, us, 0, .ref p2, rfl, rfl, s4 _ _ hus, ?_, Int.le_refl _, by decide, _, _, _, rfl, same_set (s3.trans s4) (ha r (List.mem_of_getElem? er)).1, RowsD.cong (hR2.put er (us := .ref p2 :: us) (ds := mkT (prw F) k (Rw k) :: Rw (rowIx F.size (gI ps k))) (.cons d1 (dps_same (f1.trans f2) dus))) ?_, ?_⟩
      · rw [hul]
        exact sz_lt (by omega)
      · intro j
        unfold rowStep rowIx
        by_cases hj : j = if gI ps k < 0 then F.size else (gI ps k).toNat
        · rw [if_pos hj, if_pos hj, ← hj]
        · rw [if_neg hj, if_neg hj]
      · intro j
        have := hlen j
        unfold rowStep
        by_cases hj : j = if gI ps k < 0 then F.size else (gI ps k).toNat
        · rw [if_pos hj]
          simp only [List.length_cons, List.length_append, List.length_nil]
          omega
        · rw [if_neg hj]
          omega
    · rintro σ H2 ⟨y2, y4, Hd, rfl, s3, hR, _⟩
      obtain ⟨r, er⟩ : ∃ r, rs[F.size]? = some r := ⟨_, List.getElem?_eq_getElem (by omega)⟩
      obtain ⟨us, hus, dus⟩ := hR.at_ _ r er
      refine ⟨_, rfl, _, rfl, lw, _, rfl, .inl (s3.seq hW), ?_⟩
      rw [hn]
      refine ⟨R, _, _, .ref r, rfl, rfl, .inl (.inl hR.h), atI_nat (by rw [List.getElem?_map, er]; rfl), r, us, rfl, .inl ⟨.inl (.inl hus), fun t nt => ?_⟩⟩
      refine q _ _ (s3.trans (same_new nt)) ?_
      have e := rows_all (mkT (prw F)) (fun t l => t :: l) F
      rw [hps] at e
      rw [Nat.sub_self, ← List.range_eq_range', e] at dus
      have := comb_enc (prw F) F 0 [] [] [] (by simp) rfl
      rw [this, List.append_nil] at dus
      exact .tup (.inl (.inl upd_same)) (dps_same (hR.s.trans (same_new nt)) dus)
theorem sclawmirrored : FnScope ["_law_words", "_law_parents_here", "_law_k", "_law_rows", "_law_row"] ["_law_words", "_law_parents_here"] (defScope (topS 57)) := ⟨rfl, rfl, rfl, by decide +kernel, rfl, by decide +kernel, by decide +kernel⟩
theorem ok_law_mirrored (T : Top P K mg) : FnOk P w K mg base CX0 1 T.d_law_mirrored.f T.d_law_mirrored.fd ["_law_words", "_law_parents_here"] (spForestD K (fun F => enc (mir F))) := by
  refine T.d_law_mirrored.F.ok sclawmirrored (fun vs H Q E h => ?_) (fun cdv A outer s H vs Q E hr h => ?_)
  · obtain ⟨lw, lp, F, rfl, _⟩ := h
    rfl
  · obtain ⟨lw, lp, F, rfl, hW, hP, hF, q⟩ := h
    refine ⟨_, pss_cons (ps_setLc (i := 3) (own := [("_law_k", 2)]) (g := gName 2) (tt := tYes) rfl sclawmirrored.nd rfl rfl (sw_true rfl rfl rfl (by decide +kernel)) (pi_range1 rfl T.z_range (pa_cons (pe_op op_add (pe_callB call_len_seq rfl T.z_len PySem.boot_len (pa_cons (pv 0) pa_nil)) (pe_int)) pa_nil)) (blkOk_by (own := [("_law_k", 2)]) (N := ["_law_words", "_law_parents_here", "_law_k", "_law_rows", "_law_row"]) (sc := defScope (topS 57)) (by decide +kernel)) (fun _ _ _ _ _ => pg_name (i := 2) sclawmirrored.nd rfl (.inl rfl)) (fun _ _ _ _ _ => pts_nil) (fun _ _ _ _ _ => pe_lst (pa_nil)))
      (pss_cons (ps_for PassesOwn.never rfl (pi_revR rfl T.z_reversed (prg_1 rfl T.z_range (pe_callB call_len_seq rfl T.z_len PySem.boot_len (pa_cons (pv 0) pa_nil)))) (pg_name (i := 2) sclawmirrored.nd rfl (.inl rfl))
      (pss_cons (ps_set (i := 4) sclawmirrored.nd rfl (.inl rfl) (pe_ix ix_list (pv 3) (pe_ix ix_list (pv 1) (pv 2) (fun _ _ => rfl)) (fun _ _ => rfl)))
      (pss_one (ps_expr (pe_bm PySem.F.plainAttrs_list PySem.F.slot_list_append PySem.F.type_list_append mt_append (pv 4) (pa_cons (pe_tup (pa_cons (pe_ix ix_list (pv 0) (pv 2) (fun _ _ => rfl)) (pa_cons (pe_callTy call_tuple_of rfl T.z_tuple (by decide +kernel) (pa_cons (pe_ix ix_list (pv 3) (pv 2) (fun _ _ => rfl)) pa_nil)) pa_nil))) pa_nil))))))
      (pss_one (ps_ret (pe_callTy call_tuple_of rfl T.z_tuple (by decide +kernel) (pa_cons (pe_ix ix_list (pv 3) (pe_callB call_len_seq rfl T.z_len PySem.boot_len (pa_cons (pv 0) pa_nil)) (fun _ _ => rfl)) pa_nil))))), ?_⟩
    have hn : (ssV (prw F)).length = F.size := by rw [ssV_len, prw_len]
    have hpl : (prw (parF (-1) 0 F)).length = F.size := by rw [prw_len, parF_size]
    have hok := parOk F
    have hge : ∀ k, k < F.size → -1 ≤ gI (prw (parF (-1) 0 F)) k := fun k hk => par_ge F (-1) 0 (by omega) _ (gI_mem (by omega))
    generalize hps : prw (parF (-1) 0 F) = ps at hP hpl hok hge
    refine ⟨_, rfl, lw, _, rfl, .inl hW, _, _, rfl, rfl, ((F.size + 1 : Nat) : Int), by rw [hn]; rfl, by omega, by omega, fun R nR => ?_⟩
    rw [Int.toNat_natCast]
    refine lc_it walk_range (fun i H' => ∃ rs : List Addr, rs.length = i ∧ Same H H' ∧ H' R = some (.lst (rs.map V.ref)) ∧ rs.Nodup ∧ ¬ R ∈ rs ∧ ∀ r ∈ rs, H r = none ∧ H' r = some (.lst [])) ⟨[], rfl, same_new nR, upd_same, List.nodup_nil, (fun h => nomatch h), fun _ h => nomatch h⟩ (fun _ _ _ _ => trivial) ?_ ?_
    · rintro i x H1 H2 hi ⟨rs, hl, s1, eR, nd, nRs, ha⟩ ⟨rfl, _⟩
      refine ⟨rfl, Nat.zero_le _, fun p np => ⟨_, same_new np _ _ eR, by rw [List.length_map, hl]; exact sz_lt (by omega), rs ++ [p], by rw [List.length_append, hl]; rfl, same_set (s1.trans (same_new np)) nR, by rw [upd_same, List.map_append]; rfl, ?_, ?_, ?_⟩⟩
      · refine List.nodup_append.mpr ⟨nd, List.nodup_cons.mpr ⟨by simp, List.nodup_nil⟩, fun a h b hb e => ?_⟩
        have := (ha a h).2
        rw [e, List.mem_singleton.mp hb, np] at this
        cases this
      · intro h
        rcases List.mem_append.mp h with h | h
        · exact nRs h
        · rw [List.mem_singleton.mp h, np] at eR
          cases eR
      · intro r h
        rcases List.mem_append.mp h with h | h
        · refine ⟨(ha r h).1, ?_⟩
          rw [upd_ne (fun e : r = R => nRs (e ▸ h))]
          exact same_new np _ _ (ha r h).2
        · rw [List.mem_singleton.mp h]
          exact ⟨s1.free np, by rw [upd_ne (fun e : p = R => by rw [e, eR] at np; cases np), upd_same]⟩
    rintro H1 ⟨rs, hl, s1, eR, nd, nRs, ha⟩
    refine ⟨_, rfl, lw, _, rfl, .inl (s1.seq hW), ?_⟩
    rw [hn]
    refine ⟨_, rfl, by decide, by decide, by omega, by omega, ?_⟩
    rw [show (0 : Int) + ((((F.size : Int) - 0).toNat : Nat) : Int) - 1 = (F.size : Int) - 1 by omega, show ((F.size : Int) - 0).toNat = F.size by omega]
    have ev : ∀ i : Nat, i < F.size → (F.size : Int) - 1 + (i : Int) * -1 = ((F.size - 1 - i : Nat) : Int) := fun i h => by omega
    refine for_it walk_rangeC (fun i σ H' => ∃ y2 y4 Hd, σ = [some (.ref lw), some (.ref lp), y2, some (.ref R), y4] ∧ Same H H' ∧ RowsD K Hd H' R rs ((List.range' (F.size - i) i).foldr (rowStep (mkT (prw F)) (fun t l => l ++ [t]) ps F.size) (fun _ => [])) ∧ ∀ j, ((List.range' (F.size - i) i).foldr (rowStep (mkT (prw F)) (fun t l => l ++ [t]) ps F.size) (fun _ => []) j).length ≤ i)
      ⟨none, none, fun _ => none, rfl, s1, ⟨(fun _ _ h => nomatch h), eR, rfl, nd, nRs, (fun _ _ => rfl), fun i r e => ⟨[], (ha r (List.mem_of_getElem? e)).2, .nil⟩⟩, fun _ => Nat.le_refl _⟩ (fun _ _ _ _ _ => trivial) ?_ ?_
    · rintro i x σ H3 H2 hi ⟨y2, y4, Hd, rfl, s3, hR, hlen⟩ ⟨rfl, hx⟩
      have hx : x = V.int ((F.size - 1 - i : Nat) : Int) := Eq.trans hx (congrArg V.int (ev i hi))
      subst hx
      have hk : F.size - 1 - i < F.size := by omega
      rw [range_back _ _ hi, List.foldr_cons]
      generalize (List.range' (F.size - i) i).foldr (rowStep (mkT (prw F)) (fun t l => l ++ [t]) ps F.size) (fun _ => []) = Rw at hR hlen
      generalize F.size - 1 - i = k at hk ⊢
      have hpk := hok k (by omega)
      obtain ⟨r, er, ar⟩ := at_row (p := gI ps k) hl (hge k hk) (by omega)
      obtain ⟨rk, erk, ark⟩ := at_row (p := (k : Int)) hl (by omega) (by omega)
      have ek : rowIx F.size (k : Int) = k := by unfold rowIx; rw [if_neg (by omega)]; rfl
      rw [ek] at erk
      refine ⟨_, rfl, _, rfl, _, rfl, lp, _, _, _, rfl, rfl, s3.seq hP, atV rfl (by omega), R, _, _, .ref r, rfl, rfl, .inl (.inl hR.h), ar, ?_⟩
      obtain ⟨us, hus, dus⟩ := hR.at_ _ r er
      obtain ⟨uk, huk, duk⟩ := hR.at_ _ rk erk
      refine ⟨_, rfl, .inl ⟨rfl, _, .inl (.inl hus)⟩, _, rfl, _, rfl, lw, _, _, _, rfl, rfl, s3.seq hW, atI_nat (ssV_at (get_D (a := prw F) (by rw [prw_len]; exact hk))), _, rfl, _, rfl, R, _, _, .ref rk, rfl, rfl, .inl (.inl hR.h), ark, rk, uk, rfl, .inl ⟨.inl (.inl huk), fun p1 np1 => ⟨by show 2 ≤ sizeLine; decide, fun p2 np2 => ?_⟩⟩⟩
      have hR1 := hR.new np1 (o := .tup uk)
      have hR2 := hR1.new np2 (o := .tup [.str ((prw F).getD k (PySem.Str.ofString "")), .ref p1])
      have s4 : Same H2 (upd (upd H2 p1 (.tup uk)) p2 (.tup [.str ((prw F).getD k (PySem.Str.ofString "")), .ref p1])) := (same_new np1).trans (same_new np2)
      have f1 : Same Hd (upd Hd p1 (.tup uk)) := same_new (hR.fr np1)
      have f2 : Same (upd Hd p1 (.tup uk)) (upd (upd Hd p1 (.tup uk)) p2 (.tup [.str ((prw F).getD k (PySem.Str.ofString "")), .ref p1])) := same_new (hR1.fr np2)
      have d1 : Dp K (upd (upd Hd p1 (.tup uk)) p2 (.tup [.str ((prw F).getD k (PySem.Str.ofString "")), .ref p1])) (.ref p2) (mkT (prw F) k (Rw k)) := .tup (.inl (.inl upd_same)) (.cons (.str _) (.cons (.tup (.inl (.inl (f2 _ _ upd_same))) (dps_same (f1.trans f2) duk)) .nil))
      have hul := dpAll_len dus
      have hln := hlen (rowIx F.size (gI ps k))
      refine ⟨r, us, .ref p2, rfl, rfl, s4 _ _ hus, ?_, _, _, _, rfl, same_set (s3.trans s4) (ha r (List.mem_of_getElem? er)).1, RowsD.cong (hR2.put er (us := us ++ [.ref p2]) (ds := Rw (rowIx F.size (gI ps k)) ++ [mkT (prw F) k (Rw k)]) (dpAll_app (dps_same (f1.trans f2) dus) (.cons d1 .nil))) ?_, ?_⟩
      · rw [hul]
        exact sz_lt (by omega)
      · intro j
        unfold rowStep rowIx
        by_cases hj : j = if gI ps k < 0 then F.size else (gI ps k).toNat
        · rw [if_pos hj, if_pos hj, ← hj]
        · rw [if_neg hj, if_neg hj]
      · intro j
        have := hlen j
        unfold rowStep
        by_cases hj : j = if gI ps k < 0 then F.size else (gI ps k).toNat
        · rw [if_pos hj]
          simp only [List.length_cons, List.length_append, List.length_nil]
          omega
        · rw [if_neg hj]
          omega
    · rintro σ H2 ⟨y2, y4, Hd, rfl, s3, hR, _⟩
      obtain ⟨r, er⟩ : ∃ r, rs[F.size]? = some r := ⟨_, List.getElem?_eq_getElem (by omega)⟩
      obtain ⟨us, hus, dus⟩ := hR.at_ _ r er
      refine ⟨_, rfl, _, rfl, lw, _, rfl, .inl (s3.seq hW), ?_⟩
      rw [hn]
      refine ⟨R, _, _, .ref r, rfl, rfl, .inl (.inl hR.h), atI_nat (by rw [List.getElem?_map, er]; rfl), r, us, rfl, .inl ⟨.inl (.inl hus), fun t nt => ?_⟩⟩
      refine q _ _ (s3.trans (same_new nt)) ?_
      have e := rows_all (mkT (prw F)) (fun t l => l ++ [t]) F
      rw [hps] at e
      rw [Nat.sub_self, ← List.range_eq_range', e] at dus
      have := comb_mir (prw F) F 0 [] [] [] (by simp) rfl
      rw [this, List.nil_append] at dus
      exact .tup (.inl (.inl upd_same)) (dps_same (hR.s.trans (same_new nt)) dus)
end
end K14
set_option maxRecDepth 100000
set_option maxHeartbeats 4000000
namespace K14
open PySem PySem.Spec PyProof.Rows L2
open Fo
/-! ### prices that the law draws -/
def prs (T : List (Str × Str × Int)) : List (Str × Str) := T.map fun t => (t.1, t.2.1)
structure PrOk (d m c : Int) (T : List (Str × Str × Int)) : Prop where
  d : 0 ≤ d
  m : 0 ≤ m
  c : 0 ≤ c
  t : ∀ t ∈ T, wordOk t.1 = true ∧ wordOk t.2.1 = true ∧ t.1 ≠ t.2.1 ∧ 0 ≤ t.2.2
  nd : (prs T).Nodup
theorem eqv_pair (a b : Str × Str) : PyData.eqv (pairD a) (pairD b) = decide (a = b) := by
  have e : PyData.eqv (pairD a) (pairD b) = (PyData.eqv (.str a.1) (.str b.1) && (PyData.eqv (.str a.2) (.str b.2) && true)) := by
    unfold pairD
    simp only [PyData.eqv, PyData.eqvAll]
  rw [e, eqv_str, eqv_str, dec_str, dec_str, Bool.and_true, ← Bool.decide_and]
  congr 1
  exact propext ⟨fun h => Prod.ext h.1 h.2, fun h => ⟨congrArg Prod.fst h, congrArg Prod.snd h⟩⟩
theorem any_pair (l : List (Str × Str)) (q : Str × Str) : ((l.map pairD).any fun z => PyData.eqv z (pairD q)) = decide (q ∈ l) := by
  induction l with
  | nil => rfl
  | cons a r ih =>
    rw [List.map_cons, List.any_cons, ih, eqv_pair]
    by_cases h : a = q
    · subst h
      simp
    · by_cases h2 : q ∈ r
      · simp [h2]
      · rw [decide_eq_false h, decide_eq_false h2, decide_eq_false fun z => by
          rcases List.mem_cons.mp z with z | z
          · exact h z.symm
          · exact h2 z]
        rfl
theorem trOk_good : ∀ (T : List (Str × Str × Int)) (l : List (Str × Str)), (∀ t ∈ T, wordOk t.1 = true ∧ wordOk t.2.1 = true ∧ t.1 ≠ t.2.1 ∧ 0 ≤ t.2.2) → (l ++ prs T).Nodup → trOk (l.map pairD) (T.map trD) = true
  | [], _, _, _ => rfl
  | t :: r, l, h, hn => by
    obtain ⟨h1, h2, h3, h4⟩ := h t List.mem_cons_self
    have hn : (l ++ (t.1, t.2.1) :: prs r).Nodup := hn
    rw [List.map_cons]
    show trOk (l.map pairD) (.tuple [.str t.1, .str t.2.1, .int t.2.2] :: r.map trD) = true
    rw [trOk_3]
    have e1 : dWord (.str t.1) = true := h1
    have e2 : dWord (.str t.2.1) = true := h2
    have e3 : dCount (.int t.2.2) = true := decide_eq_true h4
    have e4 : PyData.eqv (.str t.1) (.str t.2.1) = false := by rw [eqv_str, dec_str]; exact decide_eq_false h3
    have e5 : ((l.map pairD).any fun z => PyData.eqv z (.tuple [.str t.1, .str t.2.1])) = false := by
      have := any_pair l (t.1, t.2.1)
      rw [show (PyData.tuple [.str t.1, .str t.2.1]) = pairD (t.1, t.2.1) from rfl, this]
      refine decide_eq_false fun z => ?_
      exact (List.nodup_append.mp hn).2.2 _ z _ List.mem_cons_self rfl
    rw [e1, e2, e3, e4, e5]
    have ih := trOk_good r (l ++ [(t.1, t.2.1)]) (fun u hu => h u (List.mem_cons_of_mem _ hu)) (by rw [List.append_assoc]; exact hn)
    rw [List.map_append] at ih
    exact ih
theorem PrOk.ok {d m c : Int} {T : List (Str × Str × Int)} (h : PrOk d m c T) : dPrices (prD d m c T) = true := by
  unfold prD
  rw [dPrices_4]
  have e1 : dCount (.int d) = true := decide_eq_true h.d
  have e2 : dCount (.int m) = true := decide_eq_true h.m
  have e3 : dCount (.int c) = true := decide_eq_true h.c
  have e4 : dTriples (.tuple (T.map trD)) = true := trOk_good T [] h.t h.nd
  rw [e1, e2, e3, e4]
  rfl
theorem PrOk.nn {d m c : Int} {T : List (Str × Str × Int)} (h : PrOk d m c T) : (prOf d m c T).Nn := prOf_nn h.d h.m h.c fun t ht => (h.t t ht).2.2.2
def turnT (T : List (Str × Str × Int)) : List (Str × Str × Int) := T.map fun t => (t.2.1, t.1, t.2.2)
theorem PrOk.turn {d m c : Int} {T : List (Str × Str × Int)} (h : PrOk d m c T) : PrOk m d c (turnT T) := by
  refine ⟨h.m, h.d, h.c, fun t ht => ?_, ?_⟩
  · obtain ⟨u, hu, rfl⟩ := List.mem_map.mp ht
    obtain ⟨a, b, e, f⟩ := h.t u hu
    exact ⟨b, a, fun z => e z.symm, f⟩
  · have e : prs (turnT T) = (prs T).map fun q => (q.2, q.1) := by
      unfold prs turnT
      rw [List.map_map, List.map_map]
      rfl
    rw [e]
    exact List.Pairwise.map _ (fun a b hab z => hab (Prod.ext (congrArg Prod.snd z) (congrArg Prod.fst z))) h.nd
def mx (i : Int) : Int := if i > 1 then i else 1
theorem mx_ge (i : Int) : 1 ≤ mx i := by unfold mx; split <;> omega
def posT (T : List (Str × Str × Int)) : List (Str × Str × Int) := T.map fun t => (t.1, t.2.1, mx t.2.2)
theorem PrOk.pos {d m c : Int} {T : List (Str × Str × Int)} (h : PrOk d m c T) : PrOk (mx d) (mx m) (mx c) (posT T) := by
  have g := fun i => mx_ge i
  refine ⟨by have := g d; omega, by have := g m; omega, by have := g c; omega, fun t ht => ?_, ?_⟩
  · obtain ⟨u, hu, rfl⟩ := List.mem_map.mp ht
    obtain ⟨a, b, e, f⟩ := h.t u hu
    exact ⟨a, b, e, by have := g u.2.2; show 0 ≤ mx u.2.2; omega⟩
  · have e : prs (posT T) = prs T := by
      unfold prs posT
      rw [List.map_map]
      rfl
    rw [e]
    exact h.nd
theorem tr_at {K : PySem.W.Frag} {H : Hp} {xs : List V} {T : List (Str × Str × Int)} {i : Nat} {x : V} (hA : DpAll K H xs (T.map trD)) (hx : xs[i]? = some x) : ∃ t b, T[i]? = some t ∧ x = .ref b ∧ SqT K H b [.str t.1, .str t.2.1, .int t.2.2] := by
  obtain ⟨z, hz, hdz⟩ := dpAll_get hA hx
  rw [List.getElem?_map] at hz
  obtain ⟨tr, htr, rfl⟩ : ∃ tr, T[i]? = some tr ∧ trD tr = z := by
    cases e : T[i]? with
    | none => rw [e] at hz; cases hz
    | some tr => rw [e] at hz; exact ⟨tr, rfl, Option.some.inj hz⟩
  obtain ⟨b, rfl, hB⟩ := dp_triple hdz
  exact ⟨tr, b, htr, rfl, hB⟩
section
variable {P : Program} {w : World} {K : PySem.W.Frag} {mg : Str → Option Value} {base : Heap}
theorem sclawchange : FnScope ["_law_prices_here", "_law_word_here", "_law_other_here", "_law_row"] ["_law_prices_here", "_law_word_here", "_law_other_here"] (defScope (topS 50)) := ⟨rfl, rfl, rfl, by decide +kernel, rfl, by decide +kernel, by decide +kernel⟩
theorem ok_law_change (T : Top P K mg) : FnOk P w K mg base CX0 1 T.d_law_change.f T.d_law_change.fd ["_law_prices_here", "_law_word_here", "_law_other_here"] (spPrice K) := by
  refine T.d_law_change.F.ok sclawchange (fun vs H Q E h => ?_) (fun cdv A outer s H vs Q E hr h => ?_)
  · obtain ⟨v, d, m, c, T, wd, ot, rfl, _⟩ := h
    rfl
  · obtain ⟨v, d, m, c, Tb, wd, ot, rfl, hd, q⟩ := h
    refine ⟨_, pss_cons (ps_if (pt_cmpR op_eq (pv 1) (pv 2) (nomark _))
      (pss_one (ps_ret (pe_int)))
      (pss_nil))
      (pss_cons (ps_for PassesOwn.never rfl (pi_tup (pe_ix ix_tup (pv 0) (pe_int) (fun _ _ => rfl))) (pg_name (i := 3) sclawchange.nd rfl (.inl rfl))
      (pss_one (ps_if (PW.pt (pw_and (pt_cmpR op_eq (pe_ix ix_tup (pv 3) (pe_int) (fun _ _ => rfl)) (pv 1) (nomark _)) (pw_and1 (pt_cmpR op_eq (pe_ix ix_tup (pv 3) (pe_int) (fun _ _ => rfl)) (pv 2) (nomark _)))))
      (pss_one (ps_ret (pe_ix ix_tup (pv 3) (pe_int) (fun _ _ => rfl))))
      (pss_nil))))
      (pss_one (ps_ret (pe_ix ix_tup (pv 0) (pe_int) (fun _ _ => rfl))))), ?_⟩
    refine ⟨_, rfl, _, rfl, rfl, _, rfl, ?_⟩
    rw [dec_str]
    by_cases h0 : wd = ot
    · subst h0
      rw [decide_eq_true rfl]
      rw [chOf_self] at q
      exact q
    · rw [decide_eq_false h0]
      obtain ⟨a, t, xs, rfl, hS, hT, hA⟩ := dp_prices hd
      have hl := dpAll_len hA
      rw [List.length_map] at hl
      refine ⟨_, rfl, a, _, 3, .ref t, rfl, rfl, hS, atI_nat (j := 3) rfl, t, rfl, ⟨xs, hT⟩, for_tup (K := K) (xs := xs) (fun i σ H' => ∃ y1, σ = [some (.ref a), some (.str wd), some (.str ot), y1] ∧ H' = H ∧ chOf c (Tb.drop i) wd ot = chOf c Tb wd ot)
        ⟨none, rfl, rfl, rfl⟩ (fun i σ H' _ ⟨_, _, e, _⟩ => e ▸ hT) ?_ ?_⟩
      · rintro i x σ H1 hx ⟨y1, rfl, rfl, hc⟩
        obtain ⟨tr, b, htr, rfl, hB⟩ := tr_at hA hx
        rw [drop_next htr, chOf_next h0] at hc
        refine ⟨_, rfl, b, _, 0, _, rfl, rfl, hB, atI_nat (j := 0) rfl, _, rfl, rfl, _, rfl, ?_⟩
        rw [dec_str]
        by_cases h1 : tr.1 = wd
        · rw [decide_eq_true h1]
          refine iteT ⟨_, rfl, b, _, 1, _, rfl, rfl, hB, atI_nat (j := 1) rfl, _, rfl, rfl, _, rfl, ?_⟩
          rw [dec_str]
          by_cases h2 : tr.2.1 = ot
          · rw [decide_eq_true h2]
            rw [if_pos ⟨h1, h2⟩] at hc
            rw [← hc] at q
            exact iteT ⟨_, rfl, b, _, 2, _, rfl, rfl, hB, atI_nat (j := 2) rfl, q⟩
          · rw [decide_eq_false h2]
            rw [if_neg fun z => h2 z.2] at hc
            exact iteF ⟨_, rfl, rfl, hc⟩
        · rw [decide_eq_false h1]
          rw [if_neg fun z => h1 z.1] at hc
          exact iteF ⟨_, rfl, rfl, hc⟩
      · rintro σ H1 ⟨y1, rfl, rfl, hc⟩
        rw [hl, List.drop_length, chOf_last h0] at hc
        rw [← hc] at q
        exact ⟨_, rfl, a, _, 2, _, rfl, rfl, hS, atI_nat (j := 2) rfl, q⟩
theorem sclawpositive : FnScope ["_law_prices_here", "_law_table", "_law_row"] ["_law_prices_here"] (defScope (topS 64)) := ⟨rfl, rfl, rfl, by decide +kernel, rfl, by decide +kernel, by decide +kernel⟩
def spPos (K : PySem.W.Frag) : Sp := fun vs H Q _ => ∃ v d m c T, vs = [v] ∧ Dp K H v (prD d m c T) ∧ T.length ≤ 1000 ∧ ∀ H' u, Same H H' → Dp K H' u (prD (mx d) (mx m) (mx c) (posT T)) → Q u H'
theorem ok_law_positive (T : Top P K mg) : FnOk P w K mg base CX0 1 T.d_law_positive.f T.d_law_positive.fd ["_law_prices_here"] (spPos K) := by
  refine T.d_law_positive.F.ok sclawpositive (fun vs H Q E h => ?_) (fun cdv A outer s H vs Q E hr h => ?_)
  · obtain ⟨v, d, m, c, T, rfl, _⟩ := h
    rfl
  · obtain ⟨v, d, m, c, Tb, rfl, hd, hTl, q⟩ := h
    refine ⟨_, pss_cons (ps_setLc (i := 1) (own := [("_law_row", 2)]) (g := gName 2) (tt := tYes) rfl sclawpositive.nd rfl rfl (sw_true rfl rfl rfl (by decide +kernel)) (pi_tup (pe_ix ix_tup (pv 0) (pe_int) (fun _ _ => rfl))) (blkOk_by (own := [("_law_row", 2)]) (N := ["_law_prices_here", "_law_table", "_law_row"]) (sc := defScope (topS 64)) (by decide +kernel)) (fun _ _ _ _ _ => pg_name (i := 2) sclawpositive.nd rfl (.inl rfl)) (fun _ _ _ _ _ => pts_nil) (fun _ _ _ _ _ => pe_tup (pa_cons (pe_ix (ixT (K := K) rfl) (pv 2) (pe_int) (fun _ _ => rfl)) (pa_cons (pe_ix (ixT (K := K) rfl) (pv 2) (pe_int) (fun _ _ => rfl)) (pa_cons (pe_callB (call_max2 rfl) rfl T.z_max (by decide +kernel) (pa_cons (pe_int) (pa_cons (pe_ix (ixT (K := K) rfl) (pv 2) (pe_int) (fun _ _ => rfl)) pa_nil))) pa_nil)))))
      (pss_one (ps_ret (pe_tup (pa_cons (pe_callB (call_max2 rfl) rfl T.z_max (by decide +kernel) (pa_cons (pe_int) (pa_cons (pe_ix ix_tup (pv 0) (pe_int) (fun _ _ => rfl)) pa_nil))) (pa_cons (pe_callB (call_max2 rfl) rfl T.z_max (by decide +kernel) (pa_cons (pe_int) (pa_cons (pe_ix ix_tup (pv 0) (pe_int) (fun _ _ => rfl)) pa_nil))) (pa_cons (pe_callB (call_max2 rfl) rfl T.z_max (by decide +kernel) (pa_cons (pe_int) (pa_cons (pe_ix ix_tup (pv 0) (pe_int) (fun _ _ => rfl)) pa_nil))) (pa_cons (pe_callTy call_tuple_of rfl T.z_tuple (by decide +kernel) (pa_cons (pv 1) pa_nil)) pa_nil))))))), ?_⟩
    obtain ⟨a, t, xs, rfl, hS, hT, hA⟩ := dp_prices hd
    have hl := dpAll_len hA
    rw [List.length_map] at hl
    refine ⟨_, rfl, a, _, 3, .ref t, rfl, rfl, hS, atI_nat (j := 3) rfl, t, rfl, ⟨xs, hT⟩, fun D nD => ?_⟩
    refine lc_it (walk_tup (K := K) (xs := xs)) (fun i H' => ∃ us, Same H H' ∧ H' D = some (.lst us) ∧ DpAll K H' us ((posT (Tb.take i)).map trD)) ⟨[], same_new nD, upd_same, .nil⟩ (fun i H' _ ⟨_, s1, _⟩ => same_t s1 hT) ?_ ?_
    · rintro i x H1 H2 hi ⟨us, s1, eD, hus⟩ ⟨rfl, hx⟩
      obtain ⟨tr, b, htr, rfl, hB⟩ := tr_at hA hx
      have hB1 := same_t s1 hB
      refine ⟨rfl, _, rfl, b, _, 0, _, rfl, rfl, hB1, atI_nat (j := 0) rfl, _, rfl, b, _, 1, _, rfl, rfl, hB1, atI_nat (j := 1) rfl, _, rfl, b, _, 2, _, rfl, rfl, hB1, atI_nat (j := 2) rfl, _, _, rfl, by show 3 ≤ sizeLine; decide, fun p np => ?_⟩
      have s2 := same_new np (o := .tup [.str tr.1, .str tr.2.1, .int (mx tr.2.2)])
      have hul := dpAll_len hus
      refine ⟨us, s2 _ _ eD, ?_, us ++ [.ref p], same_set (s1.trans s2) nD, upd_same, ?_⟩
      · rw [hul, List.length_map]
        unfold posT
        rw [List.length_map, List.length_take]
        exact sz_lt (by omega)
      · have e : (posT (Tb.take (i + 1))).map trD = (posT (Tb.take i)).map trD ++ [trD (tr.1, tr.2.1, mx tr.2.2)] := by
          rw [take_next htr]
          unfold posT
          rw [List.map_append, List.map_append]
          rfl
        rw [e]
        refine dps_set (s2 _ _ eD) ?_ (dpAll_app (dps_same s2 hus) (.cons (.tup (.inl (.inl upd_same)) (.cons (.str _) (.cons (.str _) (.cons (.int _) .nil)))) .nil))
        rw [← e]
        exact noLists_tr _
    · rintro H1 ⟨us, s1, eD, hus⟩
      have hS1 := same_t s1 hS
      rw [hl, List.take_length] at hus
      refine ⟨_, rfl, a, _, 0, _, rfl, rfl, hS1, atI_nat (j := 0) rfl, _, _, rfl, _, rfl, a, _, 1, _, rfl, rfl, hS1, atI_nat (j := 1) rfl, _, _, rfl, _, rfl, a, _, 2, _, rfl, rfl, hS1, atI_nat (j := 2) rfl, _, _, rfl, _, rfl, D, us, rfl, .inl ⟨.inl (.inl eD), fun p np => ⟨by show 4 ≤ sizeLine; decide, fun p2 np2 => ?_⟩⟩⟩
      have s2 := same_new np (o := .tup us)
      have s3 := same_new np2 (o := .tup [.int (mx d), .int (mx m), .int (mx c), .ref p])
      exact q _ _ (s1.trans (s2.trans s3)) (.tup (.inl (.inl upd_same)) (.cons (.int _) (.cons (.int _) (.cons (.int _) (.cons (.tup (.inl (.inl (s3 _ _ upd_same))) (dps_same (s2.trans s3) hus)) .nil)))))
end
end K14
set_option maxRecDepth 100000
set_option maxHeartbeats 4000000
namespace K14
open PySem PySem.Spec PyProof.Rows L2
open Fo
/-- between two statements of _law_prices -/
structure PrSt (K : PySem.W.Frag) (H : Hp) (a R Pl : Addr) (Tb : List (Str × Str × Int)) (H' : Hp) : Prop where
  b : But1 a H H'
  e : BoxAt H' a
  r : ∃ us, H' R = some (.lst us) ∧ DpAll K H' us (Tb.map trD)
  p : ∃ us, H' Pl = some (.lst us) ∧ DpAll K H' us ((prs Tb).map pairD)
  n1 : R ≠ Pl
  n2 : R ≠ a
  n3 : Pl ≠ a
  f1 : H R = none
  f2 : H Pl = none
  ok : ∀ t ∈ Tb, wordOk t.1 = true ∧ wordOk t.2.1 = true ∧ t.1 ≠ t.2.1 ∧ 0 ≤ t.2.2
  nd : (prs Tb).Nodup
theorem BoxAt.sameT {H H' : Hp} {a : Addr} (h : BoxAt H a) (b : But1 a H H') : SameT H H' := by
  obtain ⟨x, y, z, e⟩ := h
  exact b.sameT e id
theorem PrSt.step {K : PySem.W.Frag} {H H' H'' : Hp} {a R Pl : Addr} {Tb : List (Str × Str × Int)} (h : PrSt K H a R Pl Tb H') (s : But1 a H' H'') (e : BoxAt H'' a) : PrSt K H a R Pl Tb H'' := by
  obtain ⟨b, e0, ⟨us, e1, d1⟩, ⟨vs, e2, d2⟩, n1, n2, n3, f1, f2, ok, nd⟩ := h
  have t := e0.sameT s
  exact ⟨b.trans s, e, ⟨us, s _ _ e1 n2, dps_sameT t (noLists_tr _) d1⟩, ⟨vs, s _ _ e2 n3, dps_sameT t (noLists_pairs _) d2⟩, n1, n2, n3, f1, f2, ok, nd⟩
theorem prs_ok {Tb : List (Str × Str × Int)} (h : ∀ t ∈ Tb, wordOk t.1 = true ∧ wordOk t.2.1 = true ∧ t.1 ≠ t.2.1 ∧ 0 ≤ t.2.2) : ∀ q ∈ prs Tb, wordOk q.1 = true ∧ wordOk q.2 = true := fun q hq => by
  obtain ⟨t, ht, rfl⟩ := List.mem_map.mp hq
  exact ⟨(h t ht).1, (h t ht).2.1⟩
theorem ws_at {ws : List Str} (h : ∀ s ∈ ws, wordOk s = true) {z : Nat} (hz : z < ws.length) : wordOk (ws.getD z (PySem.Str.ofString "")) = true := h _ (by
  rw [List.getD_eq_getElem?_getD, List.getElem?_eq_getElem hz]
  exact List.getElem_mem _)
section
variable {P : Program} {w : World} {K : PySem.W.Frag} {mg : Str → Option Value} {base : Heap}
theorem sclawprices : FnScope ["_law_box_here", "_law_words", "_law_rows", "_law_pairs", "_law_k", "_law_pair", "_law_price_here"] ["_law_box_here", "_law_words"] (defScope (topS 49)) := ⟨rfl, rfl, rfl, by decide +kernel, rfl, by decide +kernel, by decide +kernel⟩
def spPrices (K : PySem.W.Frag) : Sp := fun vs H Q _ => ∃ a lw ws, vs = [.ref a, .ref lw] ∧ BoxAt H a ∧ H lw = some (.lst (ssV ws)) ∧ lw ≠ a ∧ (∀ s ∈ ws, wordOk s = true) ∧ 0 < ws.length ∧ ws.length ≤ 1000 ∧
  ∀ H' v d m c T, But1 a H H' → BoxAt H' a → Dp K H' v (prD d m c T) → PrOk d m c T → T.length ≤ 7 → Q v H'
theorem ok_law_prices (T : Top P K mg) : FnOk P w K mg base CX0 4 T.d_law_prices.f T.d_law_prices.fd ["_law_box_here", "_law_words"] (spPrices K) := by
  refine T.d_law_prices.F.ok sclawprices (fun vs H Q E h => ?_) (fun cdv A outer s H vs Q E hr h => ?_)
  · obtain ⟨a, lw, ws, rfl, _⟩ := h
    rfl
  · obtain ⟨a, lw, ws, rfl, hb, hw, nwa, hok, hw1, hw2, q⟩ := h
    refine ⟨_, pss_cons (ps_set (i := 2) sclawprices.nd rfl (.inl rfl) (pe_lst (pa_nil)))
      (pss_cons (ps_set (i := 3) sclawprices.nd rfl (.inl rfl) (pe_lst (pa_nil)))
      (pss_cons (ps_for PassesOwn.never rfl (pi_range1 rfl T.z_range (pa_cons (pe_call (ok_law_draw T) (hr.mono (by omega)) rfl T.d_law_draw.g T.d_law_draw.F.kp T.d_law_draw.b .nil pass0 (pa_cons (pv 0) (pa_cons (pe_int) pa_nil))) pa_nil)) (pg_name (i := 4) sclawprices.nd rfl (.inl rfl))
      (pss_cons (ps_set (i := 5) sclawprices.nd rfl (.inl rfl) (pe_tup (pa_cons (pe_ix ix_list (pv 1) (pe_call (ok_law_draw T) (hr.mono (by omega)) rfl T.d_law_draw.g T.d_law_draw.F.kp T.d_law_draw.b .nil pass0 (pa_cons (pv 0) (pa_cons (pe_callB call_len_seq rfl T.z_len PySem.boot_len (pa_cons (pv 1) pa_nil)) pa_nil))) (fun _ _ => rfl)) (pa_cons (pe_ix ix_list (pv 1) (pe_call (ok_law_draw T) (hr.mono (by omega)) rfl T.d_law_draw.g T.d_law_draw.F.kp T.d_law_draw.b .nil pass0 (pa_cons (pv 0) (pa_cons (pe_callB call_len_seq rfl T.z_len PySem.boot_len (pa_cons (pv 1) pa_nil)) pa_nil))) (fun _ _ => rfl)) pa_nil))))
      (Evl.pss_cut (ps_if (pt_cmpR op_eq (pe_call (ok_law_draw T) (hr.mono (by omega)) rfl T.d_law_draw.g T.d_law_draw.F.kp T.d_law_draw.b .nil pass0 (pa_cons (pv 0) (pa_cons (pe_int) pa_nil))) (pe_int) (nomark _))
      (pss_one (ps_set (i := 5) sclawprices.nd rfl (.inl rfl) (pe_tup (pa_cons (pe_ix ix_tup (pv 5) (pe_int) (fun _ _ => rfl)) (pa_cons (pe_call (ok_law_word T) (hr.mono (by omega)) rfl T.d_law_word.g T.d_law_word.F.kp T.d_law_word.b .nil pass0 (pa_cons (pv 0) pa_nil)) pa_nil)))))
      (pss_nil))
      (pss_cons (ps_set (i := 6) sclawprices.nd rfl (.inl rfl) (pe_call (ok_law_price T) (hr.mono (by omega)) rfl T.d_law_price.g T.d_law_price.F.kp T.d_law_price.b .nil pass0 (pa_cons (pv 0) pa_nil)))
      (pss_one (ps_if (PW.pt (pw_and (pt_cmpR op_ne (pe_ix ix_tup (pv 5) (pe_int) (fun _ _ => rfl)) (pe_ix ix_tup (pv 5) (pe_int) (fun _ _ => rfl)) (nomark _)) (pw_and1 (pt_cmpR (op_notInD (hu65 hr)) (pv 5) (pv 3) (by rfl)))))
      (pss_cons (ps_expr (pe_bm PySem.F.plainAttrs_list PySem.F.slot_list_append PySem.F.type_list_append mt_append (pv 3) (pa_cons (pv 5) pa_nil)))
      (pss_one (ps_expr (pe_bm PySem.F.plainAttrs_list PySem.F.slot_list_append PySem.F.type_list_append mt_append (pv 2) (pa_cons (pe_op op_catA (pv 5) (pe_tup (pa_cons (pv 6) pa_nil))) pa_nil)))))
      (pss_nil)))))))
      (pss_one (ps_ret (pe_tup (pa_cons (pe_call (ok_law_price T) (hr.mono (by omega)) rfl T.d_law_price.g T.d_law_price.F.kp T.d_law_price.b .nil pass0 (pa_cons (pv 0) pa_nil)) (pa_cons (pe_call (ok_law_price T) (hr.mono (by omega)) rfl T.d_law_price.g T.d_law_price.F.kp T.d_law_price.b .nil pass0 (pa_cons (pv 0) pa_nil)) (pa_cons (pe_call (ok_law_price T) (hr.mono (by omega)) rfl T.d_law_price.g T.d_law_price.F.kp T.d_law_price.b .nil pass0 (pa_cons (pv 0) pa_nil)) (pa_cons (pe_callTy call_tuple_of rfl T.z_tuple (by decide +kernel) (pa_cons (pv 2) pa_nil)) pa_nil))))))))), ?_⟩
    refine ⟨Nat.zero_le _, fun R nR => ⟨Nat.zero_le _, fun Pl nP => ?_⟩⟩
    have s1 : Same H (upd H R (.lst [])) := same_new nR
    have s2 : Same (upd H R (.lst [])) (upd (upd H R (.lst [])) Pl (.lst [])) := same_new nP
    have nRP : R ≠ Pl := ne_of_none upd_same nP
    have st0 : PrSt K H a R Pl [] (upd (upd H R (.lst [])) Pl (.lst [])) := ⟨but_of (s1.trans s2), hb.same (s1.trans s2), ⟨[], s2 _ _ upd_same, .nil⟩, ⟨[], upd_same, .nil⟩, nRP, (hb.ne nR).symm, ((hb.same s1).ne nP).symm, nR, s1.free nP, (fun t h => nomatch h), List.nodup_nil⟩
    generalize upd (upd H R (.lst [])) Pl (.lst []) = H1 at st0 ⊢
    have lenW : (ssV ws).length = ws.length := ssV_len ws
    refine ⟨_, rfl, a, 7, rfl, st0.e, by decide, by decide, fun z H2 hz b2 e2 => ⟨(z : Int), rfl, by omega, by omega, ?_⟩⟩
    rw [Int.toNat_natCast]
    refine for_it walk_range (fun i σ H' => ∃ Tb y4 y5 y6, σ = [some (.ref a), some (.ref lw), some (.ref R), some (.ref Pl), y4, y5, y6] ∧ PrSt K H a R Pl Tb H' ∧ Tb.length ≤ i) ⟨[], none, none, none, rfl, st0.step b2 e2, Nat.le_refl _⟩ (fun _ _ _ _ _ => trivial) ?_ ?_
    · rintro i x σ H4 H3 hi ⟨Tb, y4, y5, y6, rfl, st3, hTl⟩ ⟨rfl, _⟩
      have hw3 := st3.b _ _ hw nwa
      refine ⟨_, rfl, _, rfl, _, rfl, lw, _, rfl, .inl (.inl (.inl hw3)), a, (ssV ws).length, rfl, st3.e, by omega, by omega, fun z1 H5 hz1 b5 e5 => ?_⟩
      have st5 := st3.step b5 e5
      have hw5 := st5.b _ _ hw nwa
      refine ⟨lw, _, _, _, rfl, rfl, .inl (.inl hw5), atI_nat (ssV_at (get_D (by omega))), ?_⟩
      refine ⟨_, rfl, _, rfl, _, rfl, lw, _, rfl, .inl (.inl (.inl hw5)), a, (ssV ws).length, rfl, st5.e, by omega, by omega, fun z2 H6 hz2 b6 e6 => ?_⟩
      have st6 := st5.step b6 e6
      have hw6 := st6.b _ _ hw nwa
      refine ⟨lw, _, _, _, rfl, rfl, .inl (.inl hw6), atI_nat (ssV_at (get_D (by omega))), by show 2 ≤ sizeLine; decide, fun p np => ?_⟩
      have o1 := ws_at hok (z := z1) (by omega)
      have o2 := ws_at hok (z := z2) (by omega)
      generalize ws.getD z1 (PySem.Str.ofString "") = u1 at o1 ⊢
      generalize ws.getD z2 (PySem.Str.ofString "") = u2 at o2 ⊢
      have sp : Same H6 (upd H6 p (.tup [.str u1, .str u2])) := same_new np
      have st7 := st6.step (but_of sp) (st6.e.same sp)
      have ep : (upd H6 p (.tup [.str u1, .str u2])) p = some (.tup [.str u1, .str u2]) := upd_same
      generalize upd H6 p (.tup [.str u1, .str u2]) = H7 at st7 ep ⊢
      refine ⟨fun σ H' => ∃ p u v y4, σ = [some (.ref a), some (.ref lw), some (.ref R), some (.ref Pl), y4, some (.ref p), y6] ∧ PrSt K H a R Pl Tb H' ∧ H' p = some (.tup [.str u, .str v]) ∧ wordOk u = true ∧ wordOk v = true, ?_, ?_⟩
      · refine ⟨_, rfl, a, 5, rfl, st7.e, by decide, by decide, fun z H8 hz b8 e8 => ⟨rfl, _, rfl, ?_⟩⟩
        have st8 := st7.step b8 e8
        have ep8 := b8 _ _ ep (by
          obtain ⟨_, _, _, e⟩ := st7.e
          exact ne_of ep e (by intro z; cases z))
        rw [dec_nat0]
        by_cases h0 : z = 0
        · rw [decide_eq_true h0]
          refine iteT ⟨_, rfl, p, _, 0, _, rfl, rfl, .inl (.inl ep8), atI_nat (j := 0) rfl, _, rfl, a, rfl, st8.e, fun v H9 ov b9 e9 => ⟨by show 2 ≤ sizeLine; decide, fun p2 np2 => ?_⟩⟩
          have st9 := st8.step b9 e9
          exact ⟨p2, u1, v, _, rfl, st9.step (but_of (same_new np2)) (st9.e.same (same_new np2)), upd_same, o1, ov⟩
        · rw [decide_eq_false h0]
          exact iteF ⟨p, u1, u2, _, rfl, st8, ep8, o1, o2⟩
      rintro σ H8 ⟨p, u, v, y4, rfl, st8, ep8, ou, ov⟩
      refine ⟨_, rfl, a, rfl, st8.e, fun z H9 b9 e9 => ?_⟩
      have st9 := st8.step b9 e9
      have ep9 := b9 _ _ ep8 (by
        obtain ⟨_, _, _, e⟩ := st8.e
        exact ne_of ep8 e (by intro z; cases z))
      refine ⟨_, rfl, p, _, 0, _, rfl, rfl, .inl (.inl ep9), atI_nat (j := 0) rfl, _, rfl, p, _, 1, _, rfl, rfl, .inl (.inl ep9), atI_nat (j := 1) rfl, rfl, _, rfl, ?_⟩
      rw [dec_str]
      by_cases h0 : u = v
      · rw [decide_eq_true h0]
        exact iteF ⟨Tb, _, _, _, rfl, st9, by omega⟩
      · rw [decide_eq_false h0]
        obtain ⟨us, eR, dR⟩ := st9.r
        obtain ⟨ps, eP, dP⟩ := st9.p
        have lR := dpAll_len dR
        have lP := dpAll_len dP
        unfold prs at lP
        rw [List.length_map] at lR
        rw [List.length_map, List.length_map] at lP
        refine iteT ⟨_, rfl, _, rfl, pairD (u, v), (prs Tb).map pairD, .tup (.inl (.inl ep9)) (.cons (.str _) (.cons (.str _) .nil)), .lst (.inl (.inl eP)) dP, pair_shaped ou ov, pairs_shaped (prs_ok st9.ok), _, rfl, ?_⟩
        rw [any_pair]
        by_cases h1 : (u, v) ∈ prs Tb
        · rw [decide_eq_true h1]
          exact iteF ⟨Tb, _, _, _, rfl, st9, by omega⟩
        · rw [decide_eq_false h1]
          refine iteT ⟨_, rfl, .inl ⟨rfl, _, .inl (.inl eP)⟩, _, rfl, Pl, ps, _, rfl, rfl, eP, sz_lt (by omega), ?_⟩
          have eR2 : (upd H9 Pl (.lst (ps ++ [.ref p]))) R = some (.lst us) := by rw [upd_ne st9.n1]; exact eR
          have ep2 : (upd H9 Pl (.lst (ps ++ [.ref p]))) p = some (.tup [.str u, .str v]) := by rw [upd_ne (ne_of ep9 eP (by intro z; cases z))]; exact ep9
          have t2 : SameT H9 (upd H9 Pl (.lst (ps ++ [.ref p]))) := sameT_set eP id
          have e2 : BoxAt (upd H9 Pl (.lst (ps ++ [.ref p]))) a := st9.e.keep but_set st9.n3.symm
          have b2 : But1 a H (upd H9 Pl (.lst (ps ++ [.ref p]))) := st9.b.put st9.f2
          have eP2 : (upd H9 Pl (.lst (ps ++ [.ref p]))) Pl = some (.lst (ps ++ [.ref p])) := upd_same
          generalize upd H9 Pl (.lst (ps ++ [.ref p])) = H10 at eR2 ep2 t2 e2 b2 eP2 ⊢
          refine ⟨_, rfl, .inl ⟨rfl, _, .inl (.inl eR2)⟩, _, rfl, _, rfl, by show 1 ≤ sizeLine; decide, fun p2 np2 => ?_⟩
          have s3 : Same H10 (upd H10 p2 (.tup [.int (z : Int)])) := same_new np2
          refine ⟨p, p2, _, _, rfl, rfl, .inl (.inl (s3 _ _ ep2)), .inl (.inl upd_same), by show 3 ≤ sizeLine; decide, (fun z => nomatch z), (fun _ z => nomatch z), fun _ _ p3 np3 => ?_⟩
          have s4 : Same (upd H10 p2 (.tup [.int (z : Int)])) (upd (upd H10 p2 (.tup [.int (z : Int)])) p3 (.tup [.str u, .str v, .int (z : Int)])) := same_new np3
          have ep3 : (upd (upd H10 p2 (.tup [.int (z : Int)])) p3 (.tup [.str u, .str v, .int (z : Int)])) p3 = some (.tup [.str u, .str v, .int (z : Int)]) := upd_same
          have s34 := s3.trans s4
          refine ⟨R, us, _, rfl, rfl, s34 _ _ eR2, sz_lt (by omega), ?_⟩
          have t5 := sameT_set (o := .lst (us ++ [.ref p3])) (s34 _ _ eR2) id
          have t9 : SameT H9 _ := t2.trans ((sameT_of s34).trans t5)
          have dnew : Dp K (upd (upd (upd H10 p2 (.tup [.int (z : Int)])) p3 (.tup [.str u, .str v, .int (z : Int)])) R (.lst (us ++ [.ref p3]))) (.ref p3) (trD (u, v, (z : Int))) := dp_sameT t5 rfl (.tup (.inl (.inl ep3)) (.cons (.str _) (.cons (.str _) (.cons (.int _) .nil))))
          have dnew2 : Dp K (upd (upd (upd H10 p2 (.tup [.int (z : Int)])) p3 (.tup [.str u, .str v, .int (z : Int)])) R (.lst (us ++ [.ref p3]))) (.ref p) (pairD (u, v)) := dp_sameT t9 rfl (.tup (.inl (.inl ep9)) (.cons (.str _) (.cons (.str _) .nil)))
          have nP := st9.n1.symm
          refine ⟨Tb ++ [(u, v, (z : Int))], _, _, _, rfl, ⟨(b2.trans (but_of s34)).put st9.f1, (e2.same s34).keep but_set st9.n2.symm, ⟨_, upd_same, ?_⟩, ⟨_, by rw [upd_ne nP]; exact s34 _ _ eP2, ?_⟩, st9.n1, st9.n2, st9.n3, st9.f1, st9.f2, fun t ht => ?_, ?_⟩, ?_⟩
          · rw [List.map_append]
            exact dpAll_app (dps_sameT t9 (noLists_tr _) dR) (.cons dnew .nil)
          · unfold prs
            rw [List.map_append, List.map_append]
            exact dpAll_app (dps_sameT t9 (noLists_pairs _) dP) (.cons dnew2 .nil)
          · rcases List.mem_append.mp ht with ht | ht
            · exact st9.ok t ht
            · rw [List.mem_singleton.mp ht]
              exact ⟨ou, ov, h0, by show (0 : Int) ≤ (z : Int); omega⟩
          · have e : prs (Tb ++ [(u, v, (z : Int))]) = prs Tb ++ [(u, v)] := by unfold prs; rw [List.map_append]; rfl
            rw [e]
            exact List.nodup_append.mpr ⟨st9.nd, List.nodup_cons.mpr ⟨by simp, List.nodup_nil⟩, fun a ha b hb z => h1 (by rw [← List.mem_singleton.mp hb, ← z]; exact ha)⟩
          · rw [List.length_append]
            show _ + 1 ≤ _
            omega
    · rintro σ H3 ⟨Tb, y4, y5, y6, rfl, st3, hTl⟩
      refine ⟨_, rfl, a, rfl, st3.e, fun z1 H4 b4 e4 => ⟨_, rfl, a, rfl, e4, fun z2 H5 b5 e5 => ⟨_, rfl, a, rfl, e5, fun z3 H6 b6 e6 => ?_⟩⟩⟩
      have st6 := st3.step (b4.trans (b5.trans b6)) e6
      obtain ⟨us, eR, dR⟩ := st6.r
      refine ⟨_, rfl, R, us, rfl, .inl ⟨.inl (.inl eR), fun p np => ⟨by show 4 ≤ sizeLine; decide, fun p2 np2 => ?_⟩⟩⟩
      have s7 := same_new np (o := .tup us)
      have s8 := same_new np2 (o := .tup [.int (z1 : Int), .int (z2 : Int), .int (z3 : Int), .ref p])
      have s78 := s7.trans s8
      exact q _ _ _ _ _ Tb (st6.b.trans (but_of s78)) (st6.e.same s78) (.tup (.inl (.inl upd_same)) (.cons (.int _) (.cons (.int _) (.cons (.int _) (.cons (.tup (.inl (.inl (s8 _ _ upd_same))) (dps_same s78 dR)) .nil))))) ⟨by omega, by omega, by omega, st6.ok, st6.nd⟩ (by omega)
end
end K14
set_option maxRecDepth 100000
set_option maxHeartbeats 4000000
namespace K14
open PySem PySem.Spec PyProof.Rows L2
open Fo
/-- between two statements of _law_other -/
structure OtSt (H : Hp) (a : Addr) (n most : Nat) (mode : Nat) (H' : Hp) (lr ls : Addr) (ws : List Str) (ps : List Int) : Prop where
  b : But1 a H H'
  e : BoxAt H' a
  r : H' lr = some (.lst (ssV ws))
  s : H' ls = some (.lst (isV ps))
  n1 : lr ≠ ls
  f1 : H lr = none
  f2 : H ls = none
  ok : ∀ s ∈ ws, wordOk s = true
  par : ParsOf ws.length ps
  le : ws.length ≤ most
  len : 2 ≤ mode → ws.length = n
theorem dec_natL (i j : Nat) : decide (V.int (i : Int) = V.int (OfNat.ofNat j)) = decide (i = OfNat.ofNat j) := dec_nat i j
section
variable {P : Program} {w : World} {K : PySem.W.Frag} {mg : Str → Option Value} {base : Heap}
theorem sclawother : FnScope ["_law_box_here", "_law_words", "_law_parents_here", "_law_most", "_law_mode", "_law_row", "_law_shape", "_law_k"] ["_law_box_here", "_law_words", "_law_parents_here", "_law_most"] (defScope (topS 52)) := ⟨rfl, rfl, rfl, by decide +kernel, rfl, by decide +kernel, by decide +kernel⟩
def spOther (K : PySem.W.Frag) : Sp := fun vs H Q _ => ∃ a lw lp, ∃ most : Nat, ∃ ws ps, vs = [.ref a, .ref lw, .ref lp, .int (most : Int)] ∧ BoxAt H a ∧ H lw = some (.lst (ssV ws)) ∧ H lp = some (.lst (isV ps)) ∧ lw ≠ a ∧ lp ≠ a ∧ (∀ s ∈ ws, wordOk s = true) ∧ ParsOf ws.length ps ∧ ws.length ≤ most ∧ most ≤ 100 ∧
  ∀ H' t lr ls ws' ps', But1 a H H' → BoxAt H' a → H' t = some (.tup [.ref lr, .ref ls]) → H' lr = some (.lst (ssV ws')) → H' ls = some (.lst (isV ps')) → H lr = none → H ls = none → (∀ s ∈ ws', wordOk s = true) → ParsOf ws'.length ps' → ws'.length ≤ most → Q (.ref t) H'
theorem ok_law_other (T : Top P K mg) : FnOk P w K mg base CX0 4 T.d_law_other.f T.d_law_other.fd ["_law_box_here", "_law_words", "_law_parents_here", "_law_most"] (spOther K) := by
  refine T.d_law_other.F.ok sclawother (fun vs H Q E h => ?_) (fun cdv A outer s H vs Q E hr h => ?_)
  · obtain ⟨a, lw, lp, most, ws, ps, rfl, _⟩ := h
    rfl
  · obtain ⟨a, lw, lp, most, ws, ps, rfl, hb, hw, hp, nwa, npa, hok, hpar, hle, hm, q⟩ := h
    refine ⟨_, pss_cons (ps_set (i := 4) sclawother.nd rfl (.inl rfl) (pe_call (ok_law_draw T) (hr.mono (by omega)) rfl T.d_law_draw.g T.d_law_draw.F.kp T.d_law_draw.b .nil pass0 (pa_cons (pv 0) (pa_cons (pe_int) pa_nil))))
      (pss_cons (ps_set (i := 5) sclawother.nd rfl (.inl rfl) (pe_callTy call_list_of rfl T.z_list (by decide +kernel) (pa_cons (pv 1) pa_nil)))
      (pss_cons (ps_set (i := 6) sclawother.nd rfl (.inl rfl) (pe_callTy call_list_of rfl T.z_list (by decide +kernel) (pa_cons (pv 2) pa_nil)))
      (Evl.pss_cut (ps_if (pt_cmpR op_lt (pv 4) (pe_int) (nomark _))
      (pss_cons (ps_set (i := 6) sclawother.nd rfl (.inl rfl) (pe_call (ok_law_parents T) (hr.mono (by omega)) rfl T.d_law_parents.g T.d_law_parents.F.kp T.d_law_parents.b .nil pass0 (pa_cons (pv 0) (pa_cons (pe_call (ok_law_draw T) (hr.mono (by omega)) rfl T.d_law_draw.g T.d_law_draw.F.kp T.d_law_draw.b .nil pass0 (pa_cons (pv 0) (pa_cons (pe_op op_add (pv 3) (pe_int)) pa_nil))) pa_nil))))
      (pss_one (ps_setLc (i := 5) (own := [("_law_k", 7)]) (g := gName 7) (tt := tYes) rfl sclawother.nd rfl rfl (sw_true rfl rfl rfl (by decide +kernel)) (pi_range1 rfl T.z_range (pa_cons (pe_callB call_len_seq rfl T.z_len PySem.boot_len (pa_cons (pv 6) pa_nil)) pa_nil)) (blkOk_by (own := [("_law_k", 7)]) (N := ["_law_box_here", "_law_words", "_law_parents_here", "_law_most", "_law_mode", "_law_row", "_law_shape", "_law_k"]) (sc := defScope (topS 52)) (by decide +kernel)) (fun _ _ _ _ _ => pg_name (i := 7) sclawother.nd rfl (.inl rfl)) (fun _ _ _ _ _ => pts_nil) (fun _ _ _ _ _ => pe_call (ok_law_word T) (hr.mono (by omega)) rfl T.d_law_word.g T.d_law_word.F.kp T.d_law_word.b .nil pass0 (pa_cons (pv 0) pa_nil)))))
      (pss_nil))
      (Evl.pss_cut (ps_if (pt_cmpR op_eq (pv 4) (pe_int) (nomark _))
      (pss_one (ps_setLc (i := 5) (own := [("_law_k", 7)]) (g := gName 7) (tt := tYes) rfl sclawother.nd rfl rfl (sw_true rfl rfl rfl (by decide +kernel)) (pi_range1 rfl T.z_range (pa_cons (pe_callB call_len_seq rfl T.z_len PySem.boot_len (pa_cons (pv 1) pa_nil)) pa_nil)) (blkOk_by (own := [("_law_k", 7)]) (N := ["_law_box_here", "_law_words", "_law_parents_here", "_law_most", "_law_mode", "_law_row", "_law_shape", "_law_k"]) (sc := defScope (topS 52)) (by decide +kernel)) (fun _ _ _ _ _ => pg_name (i := 7) sclawother.nd rfl (.inl rfl)) (fun _ _ _ _ _ => pts_nil) (fun _ _ _ _ _ => pe_call (ok_law_word T) (hr.mono (by omega)) rfl T.d_law_word.g T.d_law_word.F.kp T.d_law_word.b .nil pass0 (pa_cons (pv 0) pa_nil))))
      (pss_nil))
      (Evl.pss_cut (ps_if (PW.pt (pw_and (pt_cmpR op_eq (pv 4) (pe_int) (nomark _)) (pw_and1 (pt_cmpR op_gt (pe_callB call_len_seq rfl T.z_len PySem.boot_len (pa_cons (pv 1) pa_nil)) (pe_int) (nomark _)))))
      (pss_one (ps_asg (pe_call (ok_law_word T) (hr.mono (by omega)) rfl T.d_law_word.g T.d_law_word.F.kp T.d_law_word.b .nil pass0 (pa_cons (pv 0) pa_nil)) (pg_sub (pv 5) (pe_call (ok_law_draw T) (hr.mono (by omega)) rfl T.d_law_draw.g T.d_law_draw.F.kp T.d_law_draw.b .nil pass0 (pa_cons (pv 0) (pa_cons (pe_callB call_len_seq rfl T.z_len PySem.boot_len (pa_cons (pv 1) pa_nil)) pa_nil))) set_list)))
      (pss_nil))
      (Evl.pss_cut (ps_if (pt_cmpR op_eq (pv 4) (pe_int) (nomark _))
      (pss_one (ps_set (i := 6) sclawother.nd rfl (.inl rfl) (pe_call (ok_law_parents T) (hr.mono (by omega)) rfl T.d_law_parents.g T.d_law_parents.F.kp T.d_law_parents.b .nil pass0 (pa_cons (pv 0) (pa_cons (pe_callB call_len_seq rfl T.z_len PySem.boot_len (pa_cons (pv 1) pa_nil)) pa_nil)))))
      (pss_nil))
      (pss_one (ps_ret (pe_tup (pa_cons (pv 5) (pa_cons (pv 6) pa_nil))))))))))), ?_⟩
    refine ⟨_, rfl, a, 6, rfl, hb, by decide, by decide, fun mode H1 hmode b1 e1 => ?_⟩
    refine ⟨_, rfl, lw, _, rfl, .inl (.inl (.inl (b1 _ _ hw nwa))), fun lr nlr => ?_⟩
    have s2 : Same H1 (upd H1 lr (.lst (ssV ws))) := same_new nlr
    refine ⟨_, rfl, lp, _, rfl, .inl (.inl (.inl (s2 _ _ (b1 _ _ hp npa)))), fun ls nls => ?_⟩
    have s3 : Same (upd H1 lr (.lst (ssV ws))) (upd (upd H1 lr (.lst (ssV ws))) ls (.lst (isV ps))) := same_new nls
    have fr : ∀ {H' : Hp} {x : Addr}, But1 a H H' → BoxAt H' a → H' x = none → H x = none := fun {H' x} b e n => by
      cases z : H x with
      | none => rfl
      | some o =>
        rw [b _ _ z (e.ne n).symm] at n
        cases n
    have st0 : OtSt H a ws.length most mode (upd (upd H1 lr (.lst (ssV ws))) ls (.lst (isV ps))) lr ls ws ps := ⟨b1.trans (but_of (s2.trans s3)), e1.same (s2.trans s3), s3 _ _ upd_same, upd_same, ne_of_none upd_same nls, fr b1 e1 nlr, fr b1 e1 (s2.free nls), hok, hpar, hle, fun _ => rfl⟩
    generalize upd (upd H1 lr (.lst (ssV ws))) ls (.lst (isV ps)) = H2 at st0 ⊢
    -- if mode < 2
    refine ⟨fun σ H' => ∃ lr ls ws' ps' y, σ = [some (.ref a), some (.ref lw), some (.ref lp), some (.int (most : Int)), some (.int (mode : Int)), some (.ref lr), some (.ref ls), y] ∧ OtSt H a ws.length most mode H' lr ls ws' ps', ?_, ?_⟩
    · refine ⟨_, rfl, _, _, rfl, rfl, _, rfl, ?_⟩
      by_cases h0 : mode < 2
      · rw [decide_eq_true (show (mode : Int) < 2 by omega)]
        refine iteT ⟨_, rfl, _, rfl, _, rfl, _, _, rfl, rfl, a, most + 1, rfl, st0.e, by omega, by omega, fun z H3 hz b3 e3 => ⟨a, z, rfl, e3, by omega, fun H4 l ps' b4 e4 nl el hps => ?_⟩⟩
        have b34 := b3.trans b4
        have hlen : ps'.length = z := hps.1
        refine ⟨_, rfl, l, _, rfl, .inl (.inl (.inl el)), (ps'.length : Int), by rw [isV_len], by omega, by omega, fun D nD => ?_⟩
        rw [Int.toNat_natCast]
        have nDa := (e4.ne nD).symm
        refine lc_it walk_range (fun i H' => ∃ l : List Str, l.length = i ∧ (∀ s ∈ l, wordOk s = true) ∧ But1 a H4 H' ∧ BoxAt H' a ∧ H' D = some (.lst (ssV l))) ⟨[], rfl, (fun _ h => nomatch h), but_of (same_new nD), e4.same (same_new nD), upd_same⟩ (fun _ _ _ _ => trivial) ?_ ?_
        · rintro i x H6 H5 hi ⟨us, hl, hu, b5, e5, ed⟩ ⟨rfl, _⟩
          refine ⟨rfl, _, rfl, a, rfl, e5, fun s H7 hs b7 e7 => ⟨_, b7 _ _ ed nDa, by rw [ssV_len]; exact sz_lt (by omega), us ++ [s], by rw [List.length_append, hl]; rfl, fun t ht => ?_, (b5.trans b7).put nD, e7.keep but_set nDa.symm, by rw [upd_same, ssV_app]; rfl⟩⟩
          rcases List.mem_append.mp ht with ht | ht
          · exact hu t ht
          · rw [List.mem_singleton.mp ht]
            exact hs
        · rintro H5 ⟨us, hl, hu, b5, e5, ed⟩
          have nla : l ≠ a := by
            obtain ⟨_, _, _, eb⟩ := e3
            exact (ne_of_none eb (by
              cases z : H3 l with
              | none => rfl
              | some o => exact absurd z (by rw [nl]; intro w; cases w))).symm
          refine ⟨D, l, us, ps', _, rfl, (st0.b.trans b34).trans b5, e5, ed, b5 _ _ el nla, (ne_of_none el nD).symm, fr (st0.b.trans b34) e4 nD, fr (st0.b.trans b3) e3 nl, hu, ?_, by omega, fun h => by omega⟩
          rw [hl]
          exact ⟨rfl, hps.2⟩
      · rw [decide_eq_false (show ¬ (mode : Int) < 2 by omega)]
        exact iteF ⟨lr, ls, ws, ps, _, rfl, st0⟩
    rintro σ H3 ⟨lr, ls, ws3, ps3, y, rfl, st3⟩
    have hw3 := st3.b _ _ hw nwa
    -- if mode == 3
    refine ⟨fun σ H' => ∃ lr ls ws' ps' y, σ = [some (.ref a), some (.ref lw), some (.ref lp), some (.int (most : Int)), some (.int (mode : Int)), some (.ref lr), some (.ref ls), y] ∧ OtSt H a ws.length most mode H' lr ls ws' ps', ?_, ?_⟩
    · refine ⟨_, rfl, rfl, _, rfl, ?_⟩
      rw [show decide (V.int (mode : Int) = V.int 3) = decide (mode = 3) from dec_nat mode 3]
      by_cases h0 : mode = 3
      · rw [decide_eq_true h0]
        have hl3 := st3.len (by omega)
        refine iteT ⟨_, rfl, lw, _, rfl, .inl (.inl (.inl hw3)), (ws.length : Int), by rw [ssV_len], by omega, by omega, fun D nD => ?_⟩
        rw [Int.toNat_natCast]
        have nDa := (st3.e.ne nD).symm
        refine lc_it walk_range (fun i H' => ∃ l : List Str, l.length = i ∧ (∀ s ∈ l, wordOk s = true) ∧ But1 a H3 H' ∧ BoxAt H' a ∧ H' D = some (.lst (ssV l))) ⟨[], rfl, (fun _ h => nomatch h), but_of (same_new nD), st3.e.same (same_new nD), upd_same⟩ (fun _ _ _ _ => trivial) ?_ ?_
        · rintro i x H6 H5 hi ⟨us, hl, hu, b5, e5, ed⟩ ⟨rfl, _⟩
          refine ⟨rfl, _, rfl, a, rfl, e5, fun s H7 hs b7 e7 => ⟨_, b7 _ _ ed nDa, by rw [ssV_len]; exact sz_lt (by omega), us ++ [s], by rw [List.length_append, hl]; rfl, fun t ht => ?_, (b5.trans b7).put nD, e7.keep but_set nDa.symm, by rw [upd_same, ssV_app]; rfl⟩⟩
          rcases List.mem_append.mp ht with ht | ht
          · exact hu t ht
          · rw [List.mem_singleton.mp ht]
            exact hs
        · rintro H5 ⟨us, hl, hu, b5, e5, ed⟩
          have nla : ls ≠ a := by
            obtain ⟨_, _, _, eb⟩ := hb
            exact (ne_of_none eb st3.f2).symm
          refine ⟨D, ls, us, ps3, _, rfl, st3.b.trans b5, e5, ed, b5 _ _ st3.s nla, (ne_of_none st3.s nD).symm, fr st3.b st3.e nD, st3.f2, hu, ?_, by omega, fun _ => hl⟩
          rw [hl, ← hl3]
          exact st3.par
      · rw [decide_eq_false h0]
        exact iteF ⟨lr, ls, ws3, ps3, _, rfl, st3⟩
    rintro σ H4 ⟨lr, ls, ws4, ps4, y, rfl, st4⟩
    have hw4 := st4.b _ _ hw nwa
    -- if mode == 4 and len(words) > 0
    refine ⟨fun σ H' => ∃ lr ls ws' ps' y, σ = [some (.ref a), some (.ref lw), some (.ref lp), some (.int (most : Int)), some (.int (mode : Int)), some (.ref lr), some (.ref ls), y] ∧ OtSt H a ws.length most mode H' lr ls ws' ps', ?_, ?_⟩
    · refine ⟨_, rfl, rfl, _, rfl, ?_⟩
      rw [show decide (V.int (mode : Int) = V.int 4) = decide (mode = 4) from dec_nat mode 4]
      by_cases h0 : mode = 4
      · rw [decide_eq_true h0]
        have hl4 := st4.len (by omega)
        refine iteT ⟨_, rfl, lw, _, rfl, .inl (.inl (.inl hw4)), _, _, rfl, rfl, _, rfl, ?_⟩
        rw [ssV_len]
        by_cases h1 : 0 < ws.length
        · rw [decide_eq_true (show (0 : Int) < (ws.length : Int) by omega)]
          refine iteT ⟨_, rfl, a, rfl, st4.e, fun s H5 hs b5 e5 => ?_⟩
          have hw5 := (st4.b.trans b5) _ _ hw nwa
          have nra : lr ≠ a := by
            obtain ⟨_, _, _, eb⟩ := hb
            exact (ne_of_none eb st4.f1).symm
          have nla : ls ≠ a := by
            obtain ⟨_, _, _, eb⟩ := hb
            exact (ne_of_none eb st4.f2).symm
          refine ⟨_, rfl, _, rfl, _, rfl, lw, _, rfl, .inl (.inl (.inl hw5)), a, (ssV ws).length, rfl, e5, by rw [ssV_len]; omega, by rw [ssV_len]; omega, fun z H6 hz b6 e6 => ?_⟩
          rw [ssV_len] at hz
          have b56 := b5.trans b6
          have er6 := b56 _ _ st4.r nra
          refine ⟨lr, _, _, _, rfl, rfl, er6, ixN_nat (j := z) rfl (by rw [ssV_len]; omega), ?_⟩
          refine ⟨lr, ls, ws4.set z s, ps4, _, rfl, (st4.b.trans b56).put st4.f1, e6.keep but_set nra.symm, ?_, ?_, st4.n1, st4.f1, st4.f2, fun t ht => ?_, by rw [List.length_set]; exact st4.par, by rw [List.length_set]; exact st4.le, fun h => by rw [List.length_set]; exact hl4⟩
          · rw [upd_same]
            unfold ssV
            rw [List.map_set]
          · rw [upd_ne st4.n1.symm]
            exact b56 _ _ st4.s nla
          · rcases List.mem_or_eq_of_mem_set ht with h | h
            · exact st4.ok t h
            · rw [h]
              exact hs
        · rw [decide_eq_false (show ¬ (0 : Int) < (ws.length : Int) by omega)]
          exact iteF ⟨lr, ls, ws4, ps4, _, rfl, st4⟩
      · rw [decide_eq_false h0]
        exact iteF ⟨lr, ls, ws4, ps4, _, rfl, st4⟩
    rintro σ H5 ⟨lr, ls, ws5, ps5, y, rfl, st5⟩
    have hw5 := st5.b _ _ hw nwa
    -- if mode == 5
    refine ⟨fun σ H' => ∃ lr ls ws' ps' y, σ = [some (.ref a), some (.ref lw), some (.ref lp), some (.int (most : Int)), some (.int (mode : Int)), some (.ref lr), some (.ref ls), y] ∧ OtSt H a ws.length most mode H' lr ls ws' ps', ?_, ?_⟩
    · refine ⟨_, rfl, rfl, _, rfl, ?_⟩
      rw [show decide (V.int (mode : Int) = V.int 5) = decide (mode = 5) from dec_nat mode 5]
      by_cases h0 : mode = 5
      · rw [decide_eq_true h0]
        have hl5 := st5.len (by omega)
        have nra : lr ≠ a := by
          obtain ⟨_, _, _, eb⟩ := hb
          exact (ne_of_none eb st5.f1).symm
        refine iteT ⟨_, rfl, _, rfl, lw, _, rfl, .inl (.inl (.inl hw5)), a, (ssV ws).length, rfl, st5.e, by rw [ssV_len]; omega, fun H6 l ps' b6 e6 nl el hps => ?_⟩
        rw [ssV_len] at hps
        refine ⟨lr, l, ws5, ps', _, rfl, st5.b.trans b6, e6, b6 _ _ st5.r nra, el, ne_of_none st5.r nl, st5.f1, fr st5.b st5.e nl, st5.ok, by rw [hl5]; exact hps, st5.le, st5.len⟩
      · rw [decide_eq_false h0]
        exact iteF ⟨lr, ls, ws5, ps5, _, rfl, st5⟩
    rintro σ H6 ⟨lr, ls, ws6, ps6, y, rfl, st6⟩
    refine ⟨_, rfl, _, rfl, by show 2 ≤ sizeLine; decide, fun t nt => ?_⟩
    have s7 := same_new nt (o := .tup [.ref lr, .ref ls])
    exact q _ t lr ls ws6 ps6 (st6.b.trans (but_of s7)) (st6.e.same s7) upd_same (s7 _ _ st6.r) (s7 _ _ st6.s) st6.f1 st6.f2 st6.ok st6.par st6.le
end
end K14
set_option maxRecDepth 100000
set_option maxHeartbeats 4000000
namespace K14
open PySem PySem.Spec PyProof.Rows L2
open Fo
theorem ssV_set (l : List Str) (j : Nat) (z : Str) : (ssV l).set j (.str z) = ssV (l.set j z) := by
  unfold ssV
  rw [List.map_set]
theorem leaves_at (F : Fo Str) {i : Nat} (h : i < F.size) : (prw (leF 0 F))[i]? = some (gI (prw (poF 0 F)) i - gI (prw (szF F)) i + 1) := by
  rw [← leaves_pre F 0, List.getElem?_zipWith, gI_get (l := prw (poF 0 F)) (by rw [prw_len, poF_size]; exact h), gI_get (l := prw (szF F)) (by rw [prw_len, szF_size]; exact h)]
section
variable {P : Program} {w : World} {K : PySem.W.Frag} {mg : Str → Option Value} {base : Heap}
theorem sclawposted : FnScope ["_law_words", "_law_parents_here", "_law_sizes_here", "_law_posts_here", "_law_row", "_law_leaves", "_law_k", "_law_word_here"] ["_law_words", "_law_parents_here"] (defScope (topS 58)) := ⟨rfl, rfl, rfl, by decide +kernel, rfl, by decide +kernel, by decide +kernel⟩
def spPosted (K : PySem.W.Frag) : Sp := fun vs H Q _ => ∃ lw lp F, vs = [.ref lw, .ref lp] ∧ SqL K H lw (ssV (prw F)) ∧ SqL K H lp (isV (prw (parF (-1) 0 F))) ∧ F.size ≤ 100 ∧
  ∀ H' t lr ll, Same H H' → H' t = some (.tup [.ref lr, .ref ll]) → H' lr = some (.lst (ssV (pow F))) → H' ll = some (.lst (isV (pow (leF 0 F)))) → Q (.ref t) H'
theorem ok_law_posted (T : Top P K mg) : FnOk P w K mg base CX0 3 T.d_law_posted.f T.d_law_posted.fd ["_law_words", "_law_parents_here"] (spPosted K) := by
  refine T.d_law_posted.F.ok sclawposted (fun vs H Q E h => ?_) (fun cdv A outer s H vs Q E hr h => ?_)
  · obtain ⟨lw, lp, F, rfl, _⟩ := h
    rfl
  · obtain ⟨lw, lp, F, rfl, hW, hP, hF, q⟩ := h
    refine ⟨_, pss_cons (ps_set (i := 2) sclawposted.nd rfl (.inl rfl) (pe_call (ok_law_sizes T) (hr.mono (by omega)) rfl T.d_law_sizes.g T.d_law_sizes.F.kp T.d_law_sizes.b .nil pass0 (pa_cons (pv 1) pa_nil)))
      (pss_cons (ps_set (i := 3) sclawposted.nd rfl (.inl rfl) (pe_call (ok_law_posts T) (hr.mono (by omega)) rfl T.d_law_posts.g T.d_law_posts.F.kp T.d_law_posts.b .nil pass0 (pa_cons (pv 1) pa_nil)))
      (pss_cons (ps_setLc (i := 4) (own := [("_law_word_here", 7)]) (g := gName 7) (tt := tYes) rfl sclawposted.nd rfl rfl (sw_true rfl rfl rfl (by decide +kernel)) (pi_list (pv 0)) (blkOk_by (own := [("_law_word_here", 7)]) (N := ["_law_words", "_law_parents_here", "_law_sizes_here", "_law_posts_here", "_law_row", "_law_leaves", "_law_k", "_law_word_here"]) (sc := defScope (topS 58)) (by decide +kernel)) (fun _ _ _ _ _ => pg_name (i := 7) sclawposted.nd rfl (.inl rfl)) (fun _ _ _ _ _ => pts_nil) (fun _ _ _ _ _ => pv 7))
      (pss_cons (ps_setLc (i := 5) (own := [("_law_word_here", 7)]) (g := gName 7) (tt := tYes) rfl sclawposted.nd rfl rfl (sw_true rfl rfl rfl (by decide +kernel)) (pi_list (pv 0)) (blkOk_by (own := [("_law_word_here", 7)]) (N := ["_law_words", "_law_parents_here", "_law_sizes_here", "_law_posts_here", "_law_row", "_law_leaves", "_law_k", "_law_word_here"]) (sc := defScope (topS 58)) (by decide +kernel)) (fun _ _ _ _ _ => pg_name (i := 7) sclawposted.nd rfl (.inl rfl)) (fun _ _ _ _ _ => pts_nil) (fun _ _ _ _ _ => pe_int))
      (pss_cons (ps_for PassesOwn.never rfl (pi_range1 rfl T.z_range (pa_cons (pe_callB call_len_seq rfl T.z_len PySem.boot_len (pa_cons (pv 0) pa_nil)) pa_nil)) (pg_name (i := 6) sclawposted.nd rfl (.inl rfl))
      (pss_cons (ps_asg (pe_ix ix_list (pv 0) (pv 6) (fun _ _ => rfl)) (pg_sub (pv 4) (pe_ix ix_list (pv 3) (pv 6) (fun _ _ => rfl)) set_list))
      (pss_one (ps_asg (pe_op op_add (pe_op op_sub (pe_ix ix_list (pv 3) (pv 6) (fun _ _ => rfl)) (pe_ix ix_list (pv 2) (pv 6) (fun _ _ => rfl))) (pe_int)) (pg_sub (pv 5) (pe_ix ix_list (pv 3) (pv 6) (fun _ _ => rfl)) set_list)))))
      (pss_one (ps_ret (pe_tup (pa_cons (pv 4) (pa_cons (pv 5) pa_nil))))))))), ?_⟩
    have hn : (ssV (prw F)).length = F.size := by rw [ssV_len, prw_len]
    have hpl : (prw (parF (-1) 0 F)).length = F.size := by rw [prw_len, parF_size]
    have hol : (prw (poF 0 F)).length = F.size := by rw [prw_len, poF_size]
    have hsl : (prw (szF F)).length = F.size := by rw [prw_len, szF_size]
    refine ⟨_, rfl, lp, prw (parF (-1) 0 F), rfl, hP, by omega, parOk F, fun H1 lz s1 _ ez => ⟨_, rfl, lp, prw (parF (-1) 0 F), rfl, s1.seq hP, by omega, parOk F, fun H2 lo s2 _ eo => ?_⟩⟩
    have ez : H1 lz = some (.lst (isV (prw (szF F)))) := by rw [← sizesOf_par]; exact ez
    have eo : H2 lo = some (.lst (isV (prw (poF 0 F)))) := by rw [← posts_of_par]; exact eo
    have s12 := s1.trans s2
    have ez2 := s2 _ _ ez
    -- row
    refine ⟨_, rfl, lw, rfl, ⟨_, s12.seq hW⟩, fun R nR => ?_⟩
    refine lc_it (walk_list (K := K) (xs := ssV (prw F))) (fun i H' => Same H2 H' ∧ H' R = some (.lst (ssV ((prw F).take i)))) ⟨same_new nR, upd_same⟩ (fun i H' _ h => (s12.trans h.1).seq hW) ?_ ?_
    · rintro i x H4 H3 hi ⟨s3, e3⟩ ⟨rfl, hx⟩
      rw [hn] at hi
      have hg := get_D (a := prw F) (i := i) (by rw [prw_len]; exact hi)
      have hx : V.str ((prw F).getD i (PySem.Str.ofString "")) = x := Option.some.inj ((ssV_at hg).symm.trans hx)
      subst hx
      refine ⟨rfl, _, rfl, _, e3, ?_, same_set s3 nR, ?_⟩
      · rw [ssV_len, List.length_take]
        exact sz_lt (by omega)
      · rw [upd_same, take_next hg, ssV_app]
        rfl
    rintro H3 ⟨s3, eR⟩
    rw [hn, ← prw_len F, List.take_length] at eR
    have s13 := s12.trans s3
    -- leaves
    refine ⟨_, rfl, lw, rfl, ⟨_, s13.seq hW⟩, fun L nL => ?_⟩
    refine lc_it (walk_list (K := K) (xs := ssV (prw F))) (fun i H' => Same H3 H' ∧ H' L = some (.lst (isV (List.replicate i 0)))) ⟨same_new nL, upd_same⟩ (fun i H' _ h => (s13.trans h.1).seq hW) ?_ ?_
    · rintro i x H5 H4 hi ⟨s4, e4⟩ ⟨rfl, _⟩
      rw [hn] at hi
      refine ⟨rfl, _, e4, ?_, same_set s4 nL, ?_⟩
      · rw [isV_len, List.length_replicate]
        exact sz_lt (by omega)
      · rw [upd_same, ← rep_next, isV_app]
        rfl
    rintro H4 ⟨s4, eL⟩
    rw [hn] at eL
    have eR4 := s4 _ _ eR
    have nRL : R ≠ L := ne_of_none eR nL
    have s24 := s3.trans s4
    have ez4 := s24 _ _ ez2
    have eo4 := s24 _ _ eo
    have nL2 : H2 L = none := s3.free nL
    refine ⟨_, rfl, lw, _, rfl, .inl ((s12.trans s24).seq hW), (F.size : Int), by rw [hn], by omega, by omega, ?_⟩
    rw [Int.toNat_natCast]
    refine for_it walk_range (fun i σ H' => ∃ y, σ = [some (.ref lw), some (.ref lp), some (.ref lz), some (.ref lo), some (.ref R), some (.ref L), y, none] ∧ Same H2 H' ∧ H' R = some (.lst (ssV (scat ((prw (poF 0 F)).take i) ((prw F).take i) (prw F)))) ∧ H' L = some (.lst (isV (scat ((prw (poF 0 F)).take i) ((prw (leF 0 F)).take i) (List.replicate F.size 0)))))
      ⟨none, rfl, s24, eR4, eL⟩ (fun _ _ _ _ _ => trivial) ?_ ?_
    · rintro i x σ H6 H5 hi ⟨y, rfl, s5, eR5, eL5⟩ ⟨rfl, hx⟩
      have hx : x = V.int (i : Int) := hx.trans (by show V.int (0 + (i : Int)) = _; rw [Int.zero_add])
      subst hx
      have hg := get_D (a := prw F) (i := i) (by rw [prw_len]; exact hi)
      have hpo := po_range F 0 _ (gI_mem (l := prw (poF 0 F)) (i := i) (by omega))
      have eo5 := s5 _ _ eo
      have ez5 := s5 _ _ ez2
      refine ⟨_, rfl, _, rfl, lw, _, _, _, rfl, rfl, (s12.trans s5).seq hW, atI_nat (ssV_at hg), ?_⟩
      refine ⟨_, rfl, _, rfl, _, rfl, lo, _, _, _, rfl, rfl, .inl (.inl eo5), atV rfl (by omega), R, _, _, _, rfl, rfl, eR5, ixN_nat (j := (gI (prw (poF 0 F)) i).toNat) (by omega) (by rw [ssV_len, scat_len, prw_len]; omega), ?_⟩
      have s6 := same_set (o := .lst ((ssV (scat ((prw (poF 0 F)).take i) ((prw F).take i) (prw F))).set (gI (prw (poF 0 F)) i).toNat (.str ((prw F).getD i (PySem.Str.ofString ""))))) s5 nR
      have eR6 : (upd H5 R (.lst ((ssV (scat ((prw (poF 0 F)).take i) ((prw F).take i) (prw F))).set (gI (prw (poF 0 F)) i).toNat (.str ((prw F).getD i (PySem.Str.ofString "")))))) R = some (.lst (ssV (scat ((prw (poF 0 F)).take (i + 1)) ((prw F).take (i + 1)) (prw F)))) := by
        rw [upd_same, ssV_set, scat_next (gI_get (by omega)) hg]
      have eL6 : (upd H5 R (.lst ((ssV (scat ((prw (poF 0 F)).take i) ((prw F).take i) (prw F))).set (gI (prw (poF 0 F)) i).toNat (.str ((prw F).getD i (PySem.Str.ofString "")))))) L = some (.lst (isV (scat ((prw (poF 0 F)).take i) ((prw (leF 0 F)).take i) (List.replicate F.size 0)))) := by rw [upd_ne (Ne.symm nRL)]; exact eL5
      generalize upd H5 R (.lst ((ssV (scat ((prw (poF 0 F)).take i) ((prw F).take i) (prw F))).set (gI (prw (poF 0 F)) i).toNat (.str ((prw F).getD i (PySem.Str.ofString ""))))) = H6 at s6 eR6 eL6 ⊢
      have eo6 := s6 _ _ eo
      have ez6 := s6 _ _ ez2
      refine ⟨_, rfl, _, rfl, lo, _, _, _, rfl, rfl, .inl (.inl eo6), atV rfl (by omega), _, rfl, _, rfl, lz, _, _, _, rfl, rfl, .inl (.inl ez6), atV rfl (by omega), _, _, rfl, rfl, _, _, rfl, rfl, ?_⟩
      refine ⟨_, rfl, _, rfl, _, rfl, lo, _, _, _, rfl, rfl, .inl (.inl eo6), atV rfl (by omega), L, _, _, _, rfl, rfl, eL6, ixN_nat (j := (gI (prw (poF 0 F)) i).toNat) (by omega) (by rw [isV_len, scat_len, List.length_replicate]; omega), ?_⟩
      refine ⟨_, rfl, same_set s6 nL2, by rw [upd_ne nRL]; exact eR6, ?_⟩
      rw [upd_same, isV_set, scat_next (gI_get (by omega)) (leaves_at F hi)]
    · rintro σ H5 ⟨y, rfl, s5, eR5, eL5⟩
      rw [← hol, List.take_length, hol, ← prw_len F, List.take_length, scat_all F F _ (Sh.refl F) (prw_len F)] at eR5
      have hll : (prw (leF 0 F)).length = F.size := by rw [prw_len, leF_size]
      rw [← hol, List.take_length, hol, ← hll, List.take_length, hll, scat_all F (leF 0 F) _ (sh_leF F 0) (List.length_replicate ..)] at eL5
      refine ⟨_, rfl, _, rfl, by show 2 ≤ sizeLine; decide, fun t nt => ?_⟩
      have s6 := same_new nt (o := .tup [.ref R, .ref L])
      exact q _ t R L ((s12.trans s5).trans s6) upd_same (s6 _ _ eR5) (s6 _ _ eL5)
end
end K14
set_option maxRecDepth 100000
set_option maxHeartbeats 4000000
namespace K14
open PySem PySem.Spec PyProof.Rows L2
open Fo
theorem cut_from (xs : List V) (n : Nat) : cutV xs (some (n : Int)) none = xs.drop n := by
  unfold cutV
  rw [HT.sIx_none, HT.sIx_nat]
  by_cases h : n ≤ xs.length
  · rw [Nat.min_eq_left h, List.take_of_length_le (by rw [List.length_drop]; omega)]
  · rw [Nat.min_eq_right (by omega), List.drop_of_length_le (Nat.le_refl _), List.drop_of_length_le (by omega), List.take_nil]
theorem inV_int (z : Int) (l : List Int) : inV (.int z) (isV l) = decide (z ∈ l) := by
  unfold inV isV
  induction l with
  | nil => rfl
  | cons a r ih =>
    rw [List.map_cons, List.any_cons, ih]
    show (decide (a = z) || _) = _
    by_cases h : a = z
    · subst h
      simp
    · by_cases h2 : z ∈ r
      · simp [h2]
      · rw [decide_eq_false h, decide_eq_false h2, decide_eq_false fun y => by
          rcases List.mem_cons.mp y with y | y
          · exact h y.symm
          · exact h2 y]
        rfl
theorem flat_isV (l : List Int) : (isV l).all flatV = true := by
  unfold isV
  rw [List.all_map]
  exact List.all_eq_true.mpr fun _ _ => rfl
/-- tuples of two ints -/
structure PairsAt (H : Hp) (qs : List Addr) (l : List (Int × Int)) : Prop where
  len : qs.length = l.length
  at_ : ∀ (i : Nat) (q : Addr), qs[i]? = some q → ∃ s t, l[i]? = some (s, t) ∧ H q = some (.tup [.int s, .int t])
theorem PairsAt.sameT {H H' : Hp} {qs : List Addr} {l : List (Int × Int)} (h : PairsAt H qs l) (s : SameT H H') : PairsAt H' qs l :=
  ⟨h.len, fun i q e => by
    obtain ⟨a, b, e1, e2⟩ := h.at_ i q e
    exact ⟨a, b, e1, s _ _ e2 trivial⟩⟩
theorem PairsAt.add {H : Hp} {qs : List Addr} {l : List (Int × Int)} {p : Addr} {s t : Int} (h : PairsAt H qs l) (e : H p = some (.tup [.int s, .int t])) : PairsAt H (qs ++ [p]) (l ++ [(s, t)]) :=
  ⟨by rw [List.length_append, List.length_append, h.len]; rfl, fun i q hq => by
    by_cases hi : i < qs.length
    · rw [List.getElem?_append_left hi] at hq
      obtain ⟨a, b, e1, e2⟩ := h.at_ i q hq
      exact ⟨a, b, by rw [List.getElem?_append_left (by rw [← h.len]; exact hi)]; exact e1, e2⟩
    · have e' := (List.getElem?_eq_some_iff.mp hq).1
      rw [List.length_append, List.length_singleton] at e'
      have ek : i = qs.length := by omega
      subst ek
      rw [List.getElem?_append_right (Nat.le_refl _), Nat.sub_self] at hq
      have hq : p = q := Option.some.inj hq
      subst hq
      exact ⟨s, t, by rw [h.len, List.getElem?_append_right (Nat.le_refl _), Nat.sub_self]; rfl, e⟩⟩
def strP (ls : List Int) (i : Nat) : List (Int × Int) := ((List.range i).filter (strF ls)).map fun k => (gI ls k, (k : Int))
theorem strP_next (ls : List Int) (i : Nat) : strP ls (i + 1) = if strF ls i = true then strP ls i ++ [(gI ls i, (i : Int))] else strP ls i := by
  unfold strP
  rw [List.range_succ, List.filter_append, List.map_append]
  by_cases h : strF ls i = true
  · rw [if_pos h, List.filter_cons, if_pos h]
    rfl
  · rw [if_neg h, List.filter_cons, if_neg h]
    show _ ++ [] = _
    rw [List.append_nil]
theorem strP_len (ls : List Int) (i : Nat) : (strP ls i).length ≤ i := by
  unfold strP
  rw [List.length_map]
  have := List.length_filter_le (strF ls) (List.range i)
  rw [List.length_range] at this
  exact this
section
variable {P : Program} {w : World} {K : PySem.W.Frag} {mg : Str → Option Value} {base : Heap}
theorem sclawstretches : FnScope ["_law_leaves", "_law_stretches_here", "_law_k"] ["_law_leaves"] (defScope (topS 59)) := ⟨rfl, rfl, rfl, by decide +kernel, rfl, by decide +kernel, by decide +kernel⟩
def spStr (K : PySem.W.Frag) : Sp := fun vs H Q _ => ∃ a ls, vs = [.ref a] ∧ SqL K H a (isV ls) ∧ ls.length ≤ 100 ∧ ∀ H' l qs, Same H H' → H' l = some (.lst (qs.map V.ref)) → PairsAt H' qs (strL ls) → Q (.ref l) H'
theorem ok_law_stretches (T : Top P K mg) : FnOk P w K mg base CX0 1 T.d_law_stretches.f T.d_law_stretches.fd ["_law_leaves"] (spStr K) := by
  refine T.d_law_stretches.F.ok sclawstretches (fun vs H Q E h => ?_) (fun cdv A outer s H vs Q E hr h => ?_)
  · obtain ⟨a, ls, rfl, _⟩ := h
    rfl
  · obtain ⟨a, ls, rfl, hS, hl, q⟩ := h
    refine ⟨_, pss_cons (ps_set (i := 1) sclawstretches.nd rfl (.inl rfl) (pe_lst (pa_nil)))
      (pss_cons (ps_for PassesOwn.never rfl (pi_range1 rfl T.z_range (pa_cons (pe_callB call_len_seq rfl T.z_len PySem.boot_len (pa_cons (pv 0) pa_nil)) pa_nil)) (pg_name (i := 2) sclawstretches.nd rfl (.inl rfl))
      (pss_one (ps_if (PW.pt (pw_and (pt_cmpR op_gt (pe_ix ix_list (pv 0) (pv 2) (fun _ _ => rfl)) (pe_int) (nomark _)) (pw_and1 (pt_cmpR op_notIn_seq (pe_ix ix_list (pv 0) (pv 2) (fun _ _ => rfl)) (pe_slice sl_list (pv 0) (po_some (pe_op op_add (pv 2) (pe_int))) (po_none)) (by rfl)))))
      (pss_one (ps_expr (pe_bm PySem.F.plainAttrs_list PySem.F.slot_list_append PySem.F.type_list_append mt_append (pv 1) (pa_cons (pe_tup (pa_cons (pe_ix ix_list (pv 0) (pv 2) (fun _ _ => rfl)) (pa_cons (pv 2) pa_nil))) pa_nil))))
      (pss_nil))))
      (pss_one (ps_ret (pe_op op_cat (pv 1) (pe_lst (pa_cons (pe_tup (pa_cons (pe_int) (pa_cons (pe_op op_sub (pe_callB call_len_seq rfl T.z_len PySem.boot_len (pa_cons (pv 0) pa_nil)) (pe_int)) pa_nil))) pa_nil)))))), ?_⟩
    refine ⟨Nat.zero_le _, fun D nD => ?_⟩
    refine ⟨_, rfl, a, _, rfl, .inl ((same_new nD).seq hS), (ls.length : Int), by rw [isV_len], by omega, by omega, ?_⟩
    rw [Int.toNat_natCast]
    refine for_it walk_range (fun i σ H' => ∃ y qs, σ = [some (.ref a), some (.ref D), y] ∧ Same H H' ∧ H' D = some (.lst (qs.map V.ref)) ∧ PairsAt H' qs (strP ls i)) ⟨none, [], rfl, same_new nD, upd_same, rfl, (fun i q e => nomatch e)⟩ (fun _ _ _ _ _ => trivial) ?_ ?_
    · rintro i x σ H2 H1 hi ⟨y, qs, rfl, s1, eD, hq⟩ ⟨rfl, hx⟩
      have hx : x = V.int (i : Int) := hx.trans (by show V.int (0 + (i : Int)) = _; rw [Int.zero_add])
      subst hx
      have hS1 := s1.seq hS
      have hsl := strP_len ls i
      refine ⟨_, rfl, _, rfl, a, _, _, _, rfl, rfl, hS1, atV rfl hi, _, _, rfl, rfl, _, rfl, ?_⟩
      by_cases h0 : 0 < gI ls i
      · rw [decide_eq_true h0]
        refine iteT ⟨_, rfl, _, rfl, a, _, _, _, rfl, rfl, hS1, atV rfl hi, _, rfl, _, rfl, _, _, rfl, rfl, _, rfl, a, _, rfl, hS1, fun p np => ?_⟩
        have s2 : Same H1 (upd H1 p (.lst (isV (ls.drop (i + 1))))) := same_new np
        have cut : cutV (isV ls) (some ((i : Int) + 1)) none = isV (ls.drop (i + 1)) := by
          refine (cut_from (isV ls) (i + 1)).trans ?_
          unfold isV
          rw [List.map_drop]
        rw [cut]
        refine ⟨p, _, rfl, .inl (.inl (.inl upd_same)), rfl, flat_isV _, _, rfl, ?_⟩
        show if (!inV (.int (gI ls i)) (isV (ls.drop (i + 1)))) = true then _ else _
        rw [inV_int]
        by_cases h1 : gI ls i ∈ ls.drop (i + 1)
        · rw [decide_eq_true h1]
          refine iteF ⟨_, qs, rfl, s1.trans s2, s2 _ _ eD, ?_⟩
          rw [strP_next, if_neg fun z => (strF_of.mp z).2 h1]
          exact hq.sameT (sameT_of s2)
        · rw [decide_eq_false h1]
          refine iteT ⟨_, rfl, .inl ⟨rfl, _, .inl (.inl (s2 _ _ eD))⟩, _, rfl, _, rfl, a, _, _, _, rfl, rfl, s2.seq hS1, atV rfl hi, _, rfl, by show 2 ≤ sizeLine; decide, fun t nt => ?_⟩
          have s3 := same_new nt (o := .tup [.int (gI ls i), .int (i : Int)])
          have eD3 := s3 _ _ (s2 _ _ eD)
          refine ⟨D, _, _, rfl, rfl, eD3, by rw [List.length_map, hq.len]; exact sz_lt (by omega), _, qs ++ [t], rfl, same_set (s1.trans (s2.trans s3)) nD, by rw [upd_same, List.map_append]; rfl, ?_⟩
          rw [strP_next, if_pos (strF_of.mpr ⟨h0, h1⟩)]
          have t4 := sameT_set (o := .lst (qs.map V.ref ++ [.ref t])) eD3 id
          exact (hq.sameT ((sameT_of (s2.trans s3)).trans t4)).add (t4 _ _ upd_same trivial)
      · rw [decide_eq_false h0]
        refine iteF ⟨_, qs, rfl, s1, eD, ?_⟩
        rw [strP_next, if_neg fun z => h0 (strF_of.mp z).1]
        exact hq
    · rintro σ H1 ⟨y, qs, rfl, s1, eD, hq⟩
      have hsl := strP_len ls ls.length
      refine ⟨_, rfl, _, rfl, a, _, rfl, .inl (s1.seq hS), _, _, rfl, rfl, by show 2 ≤ sizeLine; decide, fun t nt => ⟨by show 1 ≤ sizeLine; decide, fun p np => ?_⟩⟩
      have s2 := same_new nt (o := .tup [.int 0, .int (((isV ls).length : Int) - 1)])
      have s3 := same_new np (o := .lst [.ref t])
      have s23 := s2.trans s3
      refine ⟨D, p, _, _, rfl, rfl, s23 _ _ eD, upd_same, by rw [List.length_map, hq.len]; exact sz_of (by show _ + 1 ≤ _; omega), fun u nu => ?_⟩
      have s4 := same_new nu (o := .lst (qs.map V.ref ++ [.ref t]))
      refine q _ u (qs ++ [t]) (s1.trans (s23.trans s4)) (by rw [upd_same, List.map_append]; rfl) ?_
      have e : strL ls = strP ls ls.length ++ [((0 : Int), (ls.length : Int) - 1)] := strs_eq ls
      rw [e]
      refine (hq.sameT (sameT_of (s23.trans s4))).add (s4 _ _ (s3 _ _ ?_))
      rw [upd_same, isV_len]
end
end K14
set_option maxRecDepth 100000
set_option maxHeartbeats 4000000
namespace K14
open PySem PySem.Spec PyProof.Rows L2
open Fo
/-! ### the law's tables -/
def tabL (p : Pr Str) (A B : Fo Str) (x n : Nat) : List Int := (List.range n).map fun y => tab p A B x y
theorem tabL_len (p : Pr Str) (A B : Fo Str) (x n : Nat) : (tabL p A B x n).length = n := by unfold tabL; rw [List.length_map, List.length_range]
theorem tabL_next (p : Pr Str) (A B : Fo Str) (x n : Nat) : tabL p A B x (n + 1) = tabL p A B x n ++ [tab p A B x n] := by
  unfold tabL
  rw [List.range_succ, List.map_append]
  rfl
theorem tabL_at (p : Pr Str) (A B : Fo Str) (x n y : Nat) (h : y < n) : (tabL p A B x n)[y]? = some (tab p A B x y) := by
  unfold tabL
  rw [List.getElem?_map, List.getElem?_range h]
  rfl
structure MatAt (H : Hp) (TR : Addr) (ts : List Addr) (n : Nat) (M : Nat → Nat → Int) : Prop where
  h : H TR = some (.lst (ts.map V.ref))
  nd : ts.Nodup
  nT : ¬ TR ∈ ts
  at_ : ∀ (i : Nat) (t : Addr), ts[i]? = some t → H t = some (.lst (isV ((List.range n).map (M i))))
def ButM (ts : List Addr) (H H' : Hp) : Prop := ∀ c o, H c = some o → ¬ c ∈ ts → H' c = some o
structure FilSt (H0 : Hp) (TR TB : Addr) (ts rs : List Addr) (n : Nat) (M : Nat → Nat → Int) (H' : Hp) (rows : Nat) (p : Pr Str) (A B : Fo Str) : Prop where
  b : ButM ts H0 H'
  m : MatAt H' TR ts n M
  t : H' TB = some (.lst (rs.map V.ref))
  fT : H0 TB = none
  fR : ∀ x, x = TR ∨ x ∈ ts → ∃ o, H0 x = some o
  len : rs.length = rows
  r : ∀ (k : Nat) (q : Addr), rs[k]? = some q → ¬ q ∈ ts ∧ q ≠ TB ∧ q ≠ TR ∧ H' q = some (.lst (isV (tabL p A B k (B.size + 1))))
section
variable {H0 H' : Hp} {TR TB : Addr} {ts rs : List Addr} {n rows : Nat} {M : Nat → Nat → Int} {p : Pr Str} {A B : Fo Str}
theorem ButM.put {o : HO} {D : Addr} (h : ButM ts H0 H') (f : H0 D = none) : ButM ts H0 (upd H' D o) := fun c u e m => by
  rw [upd_ne (ne_of_none e f)]
  exact h c u e m
theorem FilSt.ne (h : FilSt H0 TR TB ts rs n M H' rows p A B) {D : Addr} (f : H0 D = none) : D ≠ TR ∧ ¬ D ∈ ts := by
  refine ⟨fun e => ?_, fun m => ?_⟩
  · obtain ⟨o, e1⟩ := h.fR TR (.inl rfl)
    rw [e, e1] at f
    cases f
  · obtain ⟨o, e1⟩ := h.fR D (.inr m)
    rw [e1] at f
    cases f
/-- a heap in which a fresh place changes -/
theorem FilSt.put {o : HO} {D : Addr} (h : FilSt H0 TR TB ts rs n M H' rows p A B) (f : H0 D = none) (n1 : D ≠ TB) (n2 : ¬ D ∈ rs) : FilSt H0 TR TB ts rs n M (upd H' D o) rows p A B := by
  obtain ⟨n3, n4⟩ := h.ne f
  refine ⟨h.b.put f, ⟨by rw [upd_ne n3.symm]; exact h.m.h, h.m.nd, h.m.nT, fun i t e => ?_⟩, by rw [upd_ne n1.symm]; exact h.t, h.fT, h.fR, h.len, fun k q e => ?_⟩
  · rw [upd_ne (fun z : t = D => n4 (z ▸ List.mem_of_getElem? e))]
    exact h.m.at_ i t e
  · obtain ⟨a, b, c, d⟩ := h.r k q e
    exact ⟨a, b, c, by rw [upd_ne (fun z : q = D => n2 (z ▸ List.mem_of_getElem? e))]; exact d⟩
theorem FilSt.fresh (h : FilSt H0 TR TB ts rs n M H' rows p A B) {D : Addr} (e : H' D = none) : H0 D = none ∧ D ≠ TB ∧ ¬ D ∈ rs := by
  have nm : ¬ D ∈ rs := fun m => by
    obtain ⟨k, hk⟩ := List.getElem?_of_mem m
    rw [(h.r k D hk).2.2.2] at e
    cases e
  have nts : ¬ D ∈ ts := fun m => by
    obtain ⟨k, hk⟩ := List.getElem?_of_mem m
    rw [h.m.at_ k D hk] at e
    cases e
  refine ⟨?_, fun z => (by rw [z, h.t] at e; cases e), nm⟩
  cases z : H0 D with
  | none => rfl
  | some o =>
    rw [h.b D o z nts] at e
    cases e
theorem FilSt.new {o : HO} {D : Addr} (h : FilSt H0 TR TB ts rs n M H' rows p A B) (e : H' D = none) : FilSt H0 TR TB ts rs n M (upd H' D o) rows p A B := by
  obtain ⟨a, b, c⟩ := h.fresh e
  exact h.put a b c
def setM (M : Nat → Nat → Int) (i j : Nat) (z : Int) : Nat → Nat → Int := fun a b => if a = i ∧ b = j then z else M a b
theorem setM_row (M : Nat → Nat → Int) (i j : Nat) (z : Int) (n : Nat) : (isV ((List.range n).map (M i))).set j (.int z) = isV ((List.range n).map (setM M i j z i)) := by
  unfold isV
  refine List.ext_getElem? fun k => ?_
  rw [List.getElem?_set]
  simp only [List.length_map, List.length_range, List.getElem?_map]
  by_cases hk : k < n
  · rw [List.getElem?_range hk]
    by_cases hj : j = k
    · subst hj
      rw [if_pos rfl, if_pos hk]
      show some (V.int z) = some (V.int (setM M i j z i j))
      unfold setM
      rw [if_pos ⟨rfl, rfl⟩]
    · rw [if_neg hj]
      show some (V.int (M i k)) = some (V.int (setM M i j z i k))
      unfold setM
      rw [if_neg fun e => hj e.2.symm]
  · have e : (List.range n)[k]? = none := List.getElem?_eq_none (by rw [List.length_range]; omega)
    rw [e]
    by_cases hj : j = k
    · subst hj
      rw [if_pos rfl, if_neg hk]
      rfl
    · rw [if_neg hj]
      rfl
theorem FilSt.cell {i j : Nat} {z : Int} {t : Addr} (h : FilSt H0 TR TB ts rs n M H' rows p A B) (e : ts[i]? = some t) : FilSt H0 TR TB ts rs n (setM M i j z) (upd H' t (.lst ((isV ((List.range n).map (M i))).set j (.int z)))) rows p A B := by
  have m := List.mem_of_getElem? e
  have nTB : TB ≠ t := fun q => by
    obtain ⟨o, e1⟩ := h.fR t (.inr m)
    rw [← q, h.fT] at e1
    cases e1
  refine ⟨fun c u e1 nm => by rw [upd_ne (fun q : c = t => nm (q ▸ m))]; exact h.b c u e1 nm, ⟨by rw [upd_ne (fun q : TR = t => h.m.nT (q ▸ m))]; exact h.m.h, h.m.nd, h.m.nT, fun k q e1 => ?_⟩, by rw [upd_ne nTB]; exact h.t, h.fT, h.fR, h.len, fun k q e1 => ?_⟩
  · by_cases hk : k = i
    · subst hk
      rw [e] at e1
      cases e1
      rw [upd_same, setM_row]
    · have nq : q ≠ t := fun y => by
        subst y
        obtain ⟨l1, g1⟩ := List.getElem?_eq_some_iff.mp e1
        obtain ⟨l2, g2⟩ := List.getElem?_eq_some_iff.mp e
        exact hk ((List.getElem_inj h.m.nd).mp (g1.trans g2.symm))
      rw [upd_ne nq, h.m.at_ k q e1]
      have : setM M i j z k = M k := funext fun b => if_neg fun y => hk y.1
      rw [this]
  · obtain ⟨a, b, c, d⟩ := h.r k q e1
    exact ⟨a, b, c, by rw [upd_ne (fun y : q = t => a (y ▸ m))]; exact d⟩
theorem FilSt.row {D : Addr} (h : FilSt H0 TR TB ts rs n M H' rows p A B) (f : H0 D = none) (n1 : D ≠ TB) (e : H' D = some (.lst (isV (tabL p A B rows (B.size + 1))))) : FilSt H0 TR TB ts (rs ++ [D]) n M (upd H' TB (.lst (rs.map V.ref ++ [.ref D]))) (rows + 1) p A B := by
  obtain ⟨n3, n4⟩ := h.ne f
  obtain ⟨n5, n6⟩ := h.ne h.fT
  refine ⟨h.b.put h.fT, ⟨by rw [upd_ne n5.symm]; exact h.m.h, h.m.nd, h.m.nT, fun i t e1 => by rw [upd_ne (fun y : t = TB => n6 (y ▸ List.mem_of_getElem? e1))]; exact h.m.at_ i t e1⟩, by rw [upd_same, List.map_append]; rfl, h.fT, h.fR, by rw [List.length_append, h.len]; rfl, fun k q hq => ?_⟩
  by_cases hk : k < rs.length
  · rw [List.getElem?_append_left hk] at hq
    obtain ⟨a, b, c, d⟩ := h.r k q hq
    exact ⟨a, b, c, by rw [upd_ne b]; exact d⟩
  · have e' := (List.getElem?_eq_some_iff.mp hq).1
    rw [List.length_append, List.length_singleton] at e'
    have ek : k = rs.length := by omega
    subst ek
    rw [List.getElem?_append_right (Nat.le_refl _), Nat.sub_self] at hq
    have hq : D = q := Option.some.inj hq
    subst hq
    exact ⟨n4, n1, n3, by rw [upd_ne n1, h.len]; exact e⟩
end
theorem min2 (i j : Int) : (if j < i then j else i) = min i j := by
  by_cases h : j < i
  · rw [if_pos h]
    omega
  · rw [if_neg h]
    omega
end K14
set_option maxRecDepth 100000
set_option maxHeartbeats 4000000
namespace K14
open PySem PySem.Spec PyProof.Rows L2
open Fo
theorem one_int {a b : Int} (h : a = b) : [V.int a] = [V.int b] := by rw [h]
theorem two_int {a b c d : Int} (h : a = b) (h2 : c = d) : [V.int a, V.int c] = [V.int b, V.int d] := by rw [h, h2]
/-- no cell is lost -/
def Imp (p : Pr Str) (F F' : Fo Str) (M M' : Nat → Nat → Int) : Prop := ∀ i j, M' i j = M i j ∨ M' i j = TD p F F' i j
theorem Imp.refl (p : Pr Str) (F F' : Fo Str) (M : Nat → Nat → Int) : Imp p F F' M M := fun _ _ => .inl rfl
theorem Imp.know {p : Pr Str} {F F' : Fo Str} {M M' : Nat → Nat → Int} (h : Imp p F F' M M') {i j : Nat} (e : M i j = TD p F F' i j) : M' i j = TD p F F' i j := by
  rcases h i j with q | q
  · rw [q, e]
  · exact q
theorem Imp.set {p : Pr Str} {F F' : Fo Str} {M M' : Nat → Nat → Int} (h : Imp p F F' M M') {i j : Nat} {z : Int} (e : z = TD p F F' i j) : Imp p F F' M (setM M' i j z) := fun a b => by
  unfold setM
  by_cases q : a = i ∧ b = j
  · rw [if_pos q, q.1, q.2]
    exact .inr e
  · rw [if_neg q]
    exact h a b
/-- the cells that are done before row i, and in it before column k -/
def Dn (p : Pr Str) (F F' : Fo Str) (s0 s1 nB : Nat) (M : Nat → Nat → Int) (i k : Nat) : Prop := ∀ a b, s0 ≤ a → s1 ≤ b → b < s1 + nB → (a < s0 + i ∨ (a = s0 + i ∧ b < s1 + k)) → gI (pow (leF 0 F)) a = s0 → gI (pow (leF 0 F')) b = s1 → M a b = TD p F F' a b
theorem Dn.set {p : Pr Str} {F F' : Fo Str} {s0 s1 nB : Nat} {M : Nat → Nat → Int} {i k : Nat} (h : Dn p F F' s0 s1 nB M i k) {z : Int} (e : z = TD p F F' (s0 + i) (s1 + k)) : Dn p F F' s0 s1 nB (setM M (s0 + i) (s1 + k) z) i (k + 1) := fun a b h1 h2 h3 h4 h5 h6 => by
  unfold setM
  by_cases q : a = s0 + i ∧ b = s1 + k
  · rw [if_pos q, q.1, q.2]
    exact e
  · rw [if_neg q]
    exact h a b h1 h2 h3 (by omega) h5 h6
theorem Dn.skip {p : Pr Str} {F F' : Fo Str} {s0 s1 nB : Nat} {M : Nat → Nat → Int} {i k : Nat} (h : Dn p F F' s0 s1 nB M i k) (n : ¬ (gI (pow (leF 0 F)) (s0 + i) = s0 ∧ gI (pow (leF 0 F')) (s1 + k) = s1)) : Dn p F F' s0 s1 nB M i (k + 1) := fun a b h1 h2 h3 h4 h5 h6 => by
  by_cases q : a = s0 + i ∧ b = s1 + k
  · obtain ⟨rfl, rfl⟩ := q
    exact absurd ⟨h5, h6⟩ n
  · exact h a b h1 h2 h3 (by omega) h5 h6
section
variable {P : Program} {w : World} {K : PySem.W.Frag} {mg : Str → Option Value} {base : Heap}
theorem sclawfilled : FnScope ["_law_one", "_law_other_here", "_law_prices_here", "_law_trees", "_law_first", "_law_second", "_law_left", "_law_right", "_law_y", "_law_table", "_law_x", "_law_i", "_law_before", "_law_line", "_law_kept", "_law_j", "_law_least", "_law_row"] ["_law_one", "_law_other_here", "_law_prices_here", "_law_trees", "_law_first", "_law_second"] (defScope (topS 60)) := ⟨rfl, rfl, rfl, by decide +kernel, rfl, by decide +kernel, by decide +kernel⟩
def spFilled (K : PySem.W.Frag) : Sp := fun vs H Q _ => ∃ o1 o2 vp TR q1 q2 lw ll lw' ll' ts d m c T F F' s0 A s1 B M, vs = [.ref o1, .ref o2, vp, .ref TR, .ref q1, .ref q2] ∧
  (H o1 = some (.tup [.ref lw, .ref ll]) ∧ H o2 = some (.tup [.ref lw', .ref ll']) ∧ H lw = some (.lst (ssV (pow F))) ∧ H ll = some (.lst (isV (pow (leF 0 F)))) ∧ H lw' = some (.lst (ssV (pow F'))) ∧ H ll' = some (.lst (isV (pow (leF 0 F')))) ∧ Dp K H vp (prD d m c T)) ∧
  H q1 = some (.tup [.int ((s0 : Nat) : Int), .int ((s0 : Int) + A.size - 1)]) ∧ H q2 = some (.tup [.int ((s1 : Nat) : Int), .int ((s1 : Int) + B.size - 1)]) ∧ Seg (pow F) (pow (leF 0 F)) s0 A ∧ Seg (pow F') (pow (leF 0 F')) s1 B ∧
  MatAt H TR ts F'.size M ∧ ts.length = F.size ∧ (¬ lw ∈ ts ∧ ¬ ll ∈ ts ∧ ¬ lw' ∈ ts ∧ ¬ ll' ∈ ts) ∧ F.size ≤ 100 ∧ F'.size ≤ 100 ∧
  (∀ i j, s0 ≤ i → i < s0 + A.size → s1 ≤ j → j < s1 + B.size → ¬ (gI (pow (leF 0 F)) i = s0 ∧ gI (pow (leF 0 F')) j = s1) → M i j = TD (prOf d m c T) F F' i j) ∧
  ∀ H' M', ButM ts H H' → MatAt H' TR ts F'.size M' → Imp (prOf d m c T) F F' M M' → Dn (prOf d m c T) F F' s0 s1 B.size M' A.size 0 → Q (.int (dist (prOf d m c T) A B)) H'
theorem ok_law_filled (T : Top P K mg) : FnOk P w K mg base CX0 2 T.d_law_filled.f T.d_law_filled.fd ["_law_one", "_law_other_here", "_law_prices_here", "_law_trees", "_law_first", "_law_second"] (spFilled K) := by
  refine T.d_law_filled.F.ok sclawfilled (fun vs H Q E h => ?_) (fun cdv Ar outer s H vs Q E hr h => ?_)
  · obtain ⟨o1, o2, vp, TR, q1, q2, lw, ll, lw', ll', ts, d, m, c, T, F, F', s0, A, s1, B, M, rfl, _⟩ := h
    rfl
  · obtain ⟨o1, o2, vp, TR, q1, q2, lw, ll, lw', ll', ts, d, m, c, Tb, F, F', s0, A, s1, B, M, rfl, ⟨ho1, ho2, hlw, hll, hlw', hll', hp⟩, hq1, hq2, hA, hB, hM, htl, ⟨n1, n2, n3, n4⟩, hF, hF', hpre, q⟩ := h
    refine ⟨_, pss_cons (ps_set (i := 6) sclawfilled.nd rfl (.inl rfl) (pe_ix ix_tup (pv 0) (pe_int) (fun _ _ => rfl)))
      (pss_cons (ps_set (i := 7) sclawfilled.nd rfl (.inl rfl) (pe_ix ix_tup (pv 1) (pe_int) (fun _ _ => rfl)))
      (pss_cons (ps_set (i := 9) sclawfilled.nd rfl (.inl rfl) (pe_lst (pa_cons (pe_lc (own := [("_law_y", 8)]) (g := gName 8) (tt := tYes) rfl sclawfilled.nd (pi_range1 rfl T.z_range (pa_cons (pe_op op_add (pe_op op_sub (pe_ix ix_tup (pv 5) (pe_int) (fun _ _ => rfl)) (pe_ix ix_tup (pv 5) (pe_int) (fun _ _ => rfl))) (pe_int)) pa_nil)) (blkOk_by (own := [("_law_y", 8)]) (N := ["_law_one", "_law_other_here", "_law_prices_here", "_law_trees", "_law_first", "_law_second", "_law_left", "_law_right", "_law_y", "_law_table", "_law_x", "_law_i", "_law_before", "_law_line", "_law_kept", "_law_j", "_law_least", "_law_row"]) (sc := defScope (topS 60)) (by decide +kernel)) (fun _ _ _ _ _ => pg_name (i := 8) sclawfilled.nd rfl (.inl rfl)) (fun _ _ _ _ _ => pts_nil) (fun _ _ _ _ _ => pe_op op_mul (pe_ix (ixT (K := K) rfl) (pv 2) (pe_int) (fun _ _ => rfl)) (pv 8))) pa_nil)))
      (pss_cons (ps_for PassesOwn.never rfl (pi_range2 rfl T.z_range (pa_cons (pe_int) (pa_cons (pe_op op_add (pe_op op_sub (pe_ix ix_tup (pv 4) (pe_int) (fun _ _ => rfl)) (pe_ix ix_tup (pv 4) (pe_int) (fun _ _ => rfl))) (pe_int)) pa_nil))) (pg_name (i := 10) sclawfilled.nd rfl (.inl rfl))
      (pss_cons (ps_set (i := 11) sclawfilled.nd rfl (.inl rfl) (pe_op op_sub (pe_op op_add (pe_ix ix_tup (pv 4) (pe_int) (fun _ _ => rfl)) (pv 10)) (pe_int)))
      (pss_cons (ps_set (i := 12) sclawfilled.nd rfl (.inl rfl) (pe_ix ix_list (pv 9) (pe_op op_sub (pv 10) (pe_int)) (fun _ _ => rfl)))
      (pss_cons (ps_set (i := 13) sclawfilled.nd rfl (.inl rfl) (pe_lst (pa_cons (pe_op op_add (pe_ix ix_list (pv 12) (pe_int) (fun _ _ => rfl)) (pe_ix ix_tup (pv 2) (pe_int) (fun _ _ => rfl))) pa_nil)))
      (pss_cons (ps_set (i := 14) sclawfilled.nd rfl (.inl rfl) (pe_ix ix_list (pv 9) (pe_op op_sub (pe_ix ix_list (pv 6) (pv 11) (fun _ _ => rfl)) (pe_ix ix_tup (pv 4) (pe_int) (fun _ _ => rfl))) (fun _ _ => rfl)))
      (pss_cons (ps_for PassesOwn.never rfl (pi_range2 rfl T.z_range (pa_cons (pe_int) (pa_cons (pe_op op_add (pe_op op_sub (pe_ix ix_tup (pv 5) (pe_int) (fun _ _ => rfl)) (pe_ix ix_tup (pv 5) (pe_int) (fun _ _ => rfl))) (pe_int)) pa_nil))) (pg_name (i := 8) sclawfilled.nd rfl (.inl rfl))
      (pss_cons (ps_set (i := 15) sclawfilled.nd rfl (.inl rfl) (pe_op op_sub (pe_op op_add (pe_ix ix_tup (pv 5) (pe_int) (fun _ _ => rfl)) (pv 8)) (pe_int)))
      (pss_cons (ps_set (i := 16) sclawfilled.nd rfl (.inl rfl) (pe_callB (call_min2 rfl) rfl T.z_min (by decide +kernel) (pa_cons (pe_callTy call_int1 rfl T.z_int (by decide +kernel) (pa_cons (pe_op op_add (pe_ix ix_list (pv 12) (pv 8) (fun _ _ => rfl)) (pe_ix ix_tup (pv 2) (pe_int) (fun _ _ => rfl))) pa_nil)) (pa_cons (pe_callTy call_int1 rfl T.z_int (by decide +kernel) (pa_cons (pe_op op_add (pe_ix ix_list (pv 13) (pe_op op_sub (pv 8) (pe_int)) (fun _ _ => rfl)) (pe_ix ix_tup (pv 2) (pe_int) (fun _ _ => rfl))) pa_nil)) pa_nil))))
      (Evl.pss_cut (ps_if (PW.pt (pw_and (pt_cmpR op_eq (pe_ix ix_list (pv 6) (pv 11) (fun _ _ => rfl)) (pe_ix ix_tup (pv 4) (pe_int) (fun _ _ => rfl)) (nomark _)) (pw_and1 (pt_cmpR op_eq (pe_ix ix_list (pv 7) (pv 15) (fun _ _ => rfl)) (pe_ix ix_tup (pv 5) (pe_int) (fun _ _ => rfl)) (nomark _)))))
      (pss_cons (ps_set (i := 16) sclawfilled.nd rfl (.inl rfl) (pe_callB (call_min2 rfl) rfl T.z_min (by decide +kernel) (pa_cons (pe_callTy call_int1 rfl T.z_int (by decide +kernel) (pa_cons (pv 16) pa_nil)) (pa_cons (pe_callTy call_int1 rfl T.z_int (by decide +kernel) (pa_cons (pe_op op_add (pe_ix ix_list (pv 12) (pe_op op_sub (pv 8) (pe_int)) (fun _ _ => rfl)) (pe_call (ok_law_change T) (hr.mono (by omega)) rfl T.d_law_change.g T.d_law_change.F.kp T.d_law_change.b .nil pass0 (pa_cons (pv 2) (pa_cons (pe_ix ix_list (pe_ix ix_tup (pv 0) (pe_int) (fun _ _ => rfl)) (pv 11) (fun _ _ => rfl)) (pa_cons (pe_ix ix_list (pe_ix ix_tup (pv 1) (pe_int) (fun _ _ => rfl)) (pv 15) (fun _ _ => rfl)) pa_nil))))) pa_nil)) pa_nil))))
      (pss_cons (ps_set (i := 17) sclawfilled.nd rfl (.inl rfl) (pe_ix ix_list (pv 3) (pv 11) (fun _ _ => rfl)))
      (pss_one (ps_asg (pv 16) (pg_sub (pv 17) (pv 15) set_list)))))
      (pss_one (ps_set (i := 16) sclawfilled.nd rfl (.inl rfl) (pe_callB (call_min2 rfl) rfl T.z_min (by decide +kernel) (pa_cons (pe_callTy call_int1 rfl T.z_int (by decide +kernel) (pa_cons (pv 16) pa_nil)) (pa_cons (pe_callTy call_int1 rfl T.z_int (by decide +kernel) (pa_cons (pe_op op_add (pe_ix ix_list (pv 14) (pe_op op_sub (pe_ix ix_list (pv 7) (pv 15) (fun _ _ => rfl)) (pe_ix ix_tup (pv 5) (pe_int) (fun _ _ => rfl))) (fun _ _ => rfl)) (pe_ix ix_list (pe_ix ix_list (pv 3) (pv 11) (fun _ _ => rfl)) (pv 15) (fun _ _ => rfl))) pa_nil)) pa_nil))))))
      (pss_one (ps_expr (pe_bm PySem.F.plainAttrs_list PySem.F.slot_list_append PySem.F.type_list_append mt_append (pv 13) (pa_cons (pv 16) pa_nil))))))))
      (pss_one (ps_expr (pe_bm PySem.F.plainAttrs_list PySem.F.slot_list_append PySem.F.type_list_append mt_append (pv 9) (pa_cons (pv 13) pa_nil))))))))))
      (pss_one (ps_ret (pe_ix ix_list (pe_ix ix_list (pv 9) (pe_op op_add (pe_op op_sub (pe_ix ix_tup (pv 4) (pe_int) (fun _ _ => rfl)) (pe_ix ix_tup (pv 4) (pe_int) (fun _ _ => rfl))) (pe_int)) (fun _ _ => rfl)) (pe_op op_add (pe_op op_sub (pe_ix ix_tup (pv 5) (pe_int) (fun _ _ => rfl)) (pe_ix ix_tup (pv 5) (pe_int) (fun _ _ => rfl))) (pe_int)) (fun _ _ => rfl))))))), ?_⟩
    obtain ⟨ap, tp, txs, rfl, hSp, _, _⟩ := dp_prices hp
    have lA := hA.le
    have lB := hB.le
    rw [pow_len, pow_len, leF_size] at lA lB
    have ntup : ∀ {x o}, H x = some o → tupO o → ¬ x ∈ ts := fun {x o} e t mm => by
      obtain ⟨k, hk⟩ := List.getElem?_of_mem mm
      rw [hM.at_ k x hk] at e
      cases e
      exact t
    generalize hpr : prOf d m c Tb = p at hpre q
    have pd : p.drop = d := by rw [← hpr]; rfl
    have pm : p.more = m := by rw [← hpr]; rfl
    have pc : p.ch = chOf c Tb := by rw [← hpr]; rfl
    refine ⟨_, rfl, o1, _, 1, .ref ll, rfl, rfl, .inl (.inl ho1), atI_nat (j := 1) rfl, ?_⟩
    refine ⟨_, rfl, o2, _, 1, .ref ll', rfl, rfl, .inl (.inl ho2), atI_nat (j := 1) rfl, ?_⟩
    -- the first row
    refine ⟨_, rfl, q2, _, 1, _, rfl, rfl, .inl (.inl hq2), atI_nat (j := 1) rfl, _, rfl, q2, _, 0, _, rfl, rfl, .inl (.inl hq2), atI_nat (j := 0) rfl, _, _, rfl, rfl, _, _, rfl, rfl, ((B.size + 1 : Nat) : Int), one_int (by omega), by omega, by omega, fun D0 nD0 => ?_⟩
    rw [Int.toNat_natCast]
    refine lc_it walk_range (fun i H' => Same H H' ∧ H' D0 = some (.lst (isV (tabL p A B 0 i)))) ⟨same_new nD0, upd_same⟩ (fun _ _ _ _ => trivial) ?_ ?_
    · rintro i x H2 H1 hi ⟨s1', e1⟩ ⟨rfl, hx⟩
      have hx : x = V.int (i : Int) := hx.trans (by show V.int (0 + (i : Int)) = _; rw [Int.zero_add])
      subst hx
      refine ⟨rfl, _, rfl, ap, _, 1, _, rfl, rfl, same_t s1' hSp, atI_nat (j := 1) rfl, _, rfl, _, _, rfl, rfl, .inr ⟨by omega, by omega⟩, _, e1, ?_, same_set s1' nD0, ?_⟩
      · rw [isV_len, tabL_len]
        exact sz_lt (by omega)
      · rw [upd_same, tabL_next, isV_app, tab_row p A B (by omega), pm]
        rfl
    rintro H1 ⟨s1', e1⟩
    refine ⟨by show 1 ≤ sizeLine; decide, fun TB nTB => ?_⟩
    have sTB : Same H1 (upd H1 TB (.lst [.ref D0])) := same_new nTB
    have st0 : FilSt H TR TB ts [D0] F'.size M (upd H1 TB (.lst [.ref D0])) 1 p A B := by
      have nD : ∀ {x o}, H x = some o → x ≠ D0 := fun {x o} e => ne_of_none e nD0
      refine ⟨fun c o e _ => sTB _ _ (s1' _ _ e), ⟨sTB _ _ (s1' _ _ hM.h), hM.nd, hM.nT, fun i t e => sTB _ _ (s1' _ _ (hM.at_ i t e))⟩, upd_same, s1'.free nTB, fun x hx => ?_, rfl, fun k y e => ?_⟩
      · rcases hx with rfl | hx
        · exact ⟨_, hM.h⟩
        · obtain ⟨k, hk⟩ := List.getElem?_of_mem hx
          exact ⟨_, hM.at_ k x hk⟩
      · match k, e with
        | 0, e =>
          have e : D0 = y := Option.some.inj e
          subst e
          refine ⟨fun mm => ?_, ne_of_none e1 nTB, (nD hM.h).symm, sTB _ _ e1⟩
          obtain ⟨k, hk⟩ := List.getElem?_of_mem mm
          exact nD (hM.at_ k D0 hk) rfl
        | k + 1, e => exact nomatch e
    generalize upd H1 TB (.lst [.ref D0]) = H2 at st0 ⊢
    have keepT : ∀ {H' : Hp}, ButM ts H H' → ∀ {x xs}, H x = some (.tup xs) → SqT K H' x xs := fun {H'} b {x xs} e => .inl (.inl (b _ _ e (ntup e trivial)))
    have keepP : ∀ {H' : Hp}, ButM ts H H' → Dp K H' (.ref ap) (prD d m c Tb) ∧ SqT K H' ap [.int d, .int m, .int c, .ref tp] := fun {H'} b => by
      have t : SameT H H' := fun b' o e n => b b' o e (ntup e n)
      exact ⟨dp_sameT t (noList_pr _ _ _ _) hp, sqT_sameT t hSp⟩
    -- the rows
    refine ⟨_, rfl, q1, _, 1, _, rfl, rfl, keepT st0.b hq1, atI_nat (j := 1) rfl, _, rfl, q1, _, 0, _, rfl, rfl, keepT st0.b hq1, atI_nat (j := 0) rfl, _, _, rfl, rfl, _, _, rfl, rfl, 1, ((A.size + 1 : Nat) : Int), two_int rfl (by omega), ⟨by omega, by omega, by omega, by omega⟩, ?_⟩
    rw [show (((A.size + 1 : Nat) : Int) - 1).toNat = A.size by omega]
    refine for_it walk_range (fun i σ H' => ∃ rs M' y8 y10 y11 y12 y13 y14 y15 y16 y17, σ = [some (.ref o1), some (.ref o2), some (.ref ap), some (.ref TR), some (.ref q1), some (.ref q2), some (.ref ll), some (.ref ll'), y8, some (.ref TB), y10, y11, y12, y13, y14, y15, y16, y17] ∧ FilSt H TR TB ts rs F'.size M' H' (i + 1) p A B ∧ Imp p F F' M M' ∧ Dn p F F' s0 s1 B.size M' i 0)
      ⟨[D0], M, none, none, none, none, none, none, none, none, none, rfl, st0, Imp.refl _ _ _ _, fun a b h1 h2 h3 h4 => by omega⟩ (fun _ _ _ _ _ => trivial) ?_ ?_
    · rintro i x σ H4 H3 hi ⟨rs, M', y8, y10, y11, y12, y13, y14, y15, y16, y17, rfl, st, imp, dn⟩ ⟨rfl, hx⟩
      have hx : x = V.int ((i + 1 : Nat) : Int) := hx.trans (by show V.int (1 + (i : Int)) = _; congr 1; omega)
      subst hx
      have st3 := st
      obtain ⟨r_, w_, c_, _, _, hrc, _, _, hleaf, _⟩ := tk_next hA hi
      have ha : r_.size ≤ i := by omega
      generalize r_.size = al at hleaf ha
      clear hrc
      obtain ⟨r0, er0⟩ : ∃ r0, rs[i]? = some r0 := ⟨_, List.getElem?_eq_getElem (by rw [st.len]; omega)⟩
      obtain ⟨ra, era⟩ : ∃ ra, rs[al]? = some ra := ⟨_, List.getElem?_eq_getElem (by rw [st.len]; omega)⟩
      have hr0 := (st.r _ _ er0).2.2.2
      refine ⟨_, rfl, q1, _, 0, _, rfl, rfl, keepT st.b hq1, atI_nat (j := 0) rfl, _, rfl, _, _, rfl, rfl, _, _, rfl, rfl, ?_⟩
      refine ⟨_, rfl, _, rfl, _, _, rfl, rfl, TB, _, _, .ref r0, rfl, rfl, .inl (.inl st.t), at_of (j := i) (by omega) (by rw [List.getElem?_map, er0]; rfl), ?_⟩
      refine ⟨_, rfl, r0, _, 0, _, rfl, rfl, .inl (.inl hr0), atI_nat (j := 0) (isV_at2 (tabL_at _ _ _ _ _ _ (by omega))), _, rfl, ap, _, 0, _, rfl, rfl, (keepP st.b).2, atI_nat (j := 0) rfl, _, _, rfl, rfl, by show 1 ≤ sizeLine; decide, fun D nD => ?_⟩
      obtain ⟨fD, nDTB, nDrs⟩ := st.fresh nD
      have st4 := st.new nD (o := .lst [.int (tab p A B i 0 + d)])
      have eD4 : (upd H3 D (.lst [.int (tab p A B i 0 + d)])) D = some (.lst (isV (tabL p A B (i + 1) 1))) := by
        rw [upd_same]
        have := tab_col p A B hA hi
        rw [pd] at this
        rw [← this]
        rfl
      generalize upd H3 D (.lst [.int (tab p A B i 0 + d)]) = H4 at st4 eD4 ⊢
      refine ⟨_, rfl, _, rfl, _, rfl, ll, _, _, _, rfl, rfl, .inl (.inl (st4.b _ _ hll n2)), at_of (j := s0 + i) (by omega) (isV_at2 hleaf), _, rfl, q1, _, 0, _, rfl, rfl, keepT st4.b hq1, atI_nat (j := 0) rfl, _, _, rfl, rfl, TB, _, _, .ref ra, rfl, rfl, .inl (.inl st4.t), at_of (j := al) (by omega) (by rw [List.getElem?_map, era]; rfl), ?_⟩
      refine ⟨_, rfl, q2, _, 1, _, rfl, rfl, keepT st4.b hq2, atI_nat (j := 1) rfl, _, rfl, q2, _, 0, _, rfl, rfl, keepT st4.b hq2, atI_nat (j := 0) rfl, _, _, rfl, rfl, _, _, rfl, rfl, 1, ((B.size + 1 : Nat) : Int), two_int rfl (by omega), ⟨by omega, by omega, by omega, by omega⟩, ?_⟩
      rw [show (((B.size + 1 : Nat) : Int) - 1).toNat = B.size by omega]
      refine for_it walk_range (fun k σ H' => ∃ M' y8 y15 y16 y17, σ = [some (.ref o1), some (.ref o2), some (.ref ap), some (.ref TR), some (.ref q1), some (.ref q2), some (.ref ll), some (.ref ll'), y8, some (.ref TB), some (.int ((i + 1 : Nat) : Int)), some (.int ((s0 : Int) + ((i + 1 : Nat) : Int) - 1)), some (.ref r0), some (.ref D), some (.ref ra), y15, y16, y17] ∧ FilSt H TR TB ts rs F'.size M' H' (i + 1) p A B ∧ H' D = some (.lst (isV (tabL p A B (i + 1) (k + 1)))) ∧ Imp p F F' M M' ∧ Dn p F F' s0 s1 B.size M' i k)
        ⟨M', y8, y15, y16, y17, rfl, st4, eD4, imp, dn⟩ (fun _ _ _ _ _ => trivial) ?_ ?_
      · rintro k x σ H6 H5 hk ⟨M', y8, y15, y16, y17, rfl, st, eD, imp, dn⟩ ⟨rfl, hx⟩
        have hx : x = V.int ((k + 1 : Nat) : Int) := hx.trans (by show V.int (1 + (k : Int)) = _; congr 1; omega)
        subst hx
        obtain ⟨wd, ot, a', b', g1, g2, g3, g4, ga, gb, gT, gO⟩ := tab_cell p (seg_whole F) (seg_whole F') (pow_len F) (pow_len F') hA hB hi hk
        have ea : a' = al := by
          have := Option.some.inj (g3.symm.trans hleaf)
          omega
        subst ea
        obtain ⟨t, et⟩ : ∃ t, ts[s0 + i]? = some t := ⟨_, List.getElem?_eq_getElem (by omega)⟩
        have ht := st.m.at_ _ _ et
        have mcell : ∀ (M : Nat → Nat → Int) (a : Nat) {b : Nat}, b < F'.size → ((List.range F'.size).map (M a))[b]? = some (M a b) := fun M a b h => by
          rw [List.getElem?_map, List.getElem?_range h]
          rfl
        have l1 : gI (pow (leF 0 F)) (s0 + i) = ((s0 + a' : Nat) : Int) := gI_of g3
        have l2 : gI (pow (leF 0 F')) (s1 + k) = ((s1 + b' : Nat) : Int) := gI_of g4
        have know : ¬ (gI (pow (leF 0 F)) (s0 + i) = s0 ∧ gI (pow (leF 0 F')) (s1 + k) = s1) → M' (s0 + i) (s1 + k) = TD p F F' (s0 + i) (s1 + k) := fun h => imp.know (hpre _ _ (by omega) (by omega) (by omega) (by omega) h)
        rw [pd, pm] at gT gO
        have val2 := gO
        refine ⟨_, rfl, q2, _, 0, _, rfl, rfl, keepT st.b hq2, atI_nat (j := 0) rfl, _, rfl, _, _, rfl, rfl, _, _, rfl, rfl, ?_⟩
        refine ⟨_, rfl, _, rfl, r0, _, _, _, rfl, rfl, .inl (.inl (st.r _ _ er0).2.2.2), atI_nat (j := k + 1) (isV_at2 (tabL_at _ _ _ _ _ _ (by omega))), _, rfl, ap, _, 0, _, rfl, rfl, (keepP st.b).2, atI_nat (j := 0) rfl, _, _, rfl, rfl, .inl ⟨_, rfl, _, rfl, _, rfl, _, _, rfl, rfl, D, _, _, _, rfl, rfl, .inl (.inl eD), at_of (j := k) (by omega) (isV_at2 (tabL_at _ _ _ _ _ _ (by omega))), _, rfl, ap, _, 1, _, rfl, rfl, (keepP st.b).2, atI_nat (j := 1) rfl, _, _, rfl, rfl, .inl ⟨_, rfl, _, _, rfl, ?_⟩⟩⟩
        rw [min2]
        refine ⟨fun σ H' => ∃ M' y17, σ = [some (.ref o1), some (.ref o2), some (.ref ap), some (.ref TR), some (.ref q1), some (.ref q2), some (.ref ll), some (.ref ll'), some (.int ((k + 1 : Nat) : Int)), some (.ref TB), some (.int ((i + 1 : Nat) : Int)), some (.int ((s0 : Int) + ((i + 1 : Nat) : Int) - 1)), some (.ref r0), some (.ref D), some (.ref ra), some (.int ((s1 : Int) + ((k + 1 : Nat) : Int) - 1)), some (.int (tab p A B (i + 1) (k + 1))), y17] ∧ FilSt H TR TB ts rs F'.size M' H' (i + 1) p A B ∧ H' D = some (.lst (isV (tabL p A B (i + 1) (k + 1)))) ∧ Imp p F F' M M' ∧ Dn p F F' s0 s1 B.size M' i (k + 1), ?_, ?_⟩
        · refine ⟨_, rfl, _, rfl, ll, _, _, _, rfl, rfl, .inl (.inl (st.b _ _ hll n2)), at_of (j := s0 + i) (by omega) (isV_at2 g3), _, rfl, q1, _, 0, _, rfl, rfl, keepT st.b hq1, atI_nat (j := 0) rfl, rfl, _, rfl, ?_⟩
          rw [dec_nat]
          by_cases h0 : s0 + a' = s0
          · rw [decide_eq_true h0]
            refine iteT ⟨_, rfl, _, rfl, ll', _, _, _, rfl, rfl, .inl (.inl (st.b _ _ hll' n4)), at_of (j := s1 + k) (by omega) (isV_at2 g4), _, rfl, q2, _, 0, _, rfl, rfl, keepT st.b hq2, atI_nat (j := 0) rfl, rfl, _, rfl, ?_⟩
            rw [dec_nat]
            by_cases h1 : s1 + b' = s1
            · rw [decide_eq_true h1]
              obtain ⟨val1, tdv⟩ := gT (by omega) (by omega)
              refine iteT ⟨_, rfl, .inl ⟨_, rfl, _, rfl, _, rfl, _, _, rfl, rfl, r0, _, _, _, rfl, rfl, .inl (.inl (st.r _ _ er0).2.2.2), at_of (j := k) (by omega) (isV_at2 (tabL_at _ _ _ _ _ _ (by omega))), _, rfl, _, rfl, o1, _, 0, .ref lw, rfl, rfl, keepT st.b ho1, atI_nat (j := 0) rfl, _, rfl, lw, _, _, _, rfl, rfl, .inl (.inl (st.b _ _ hlw n1)), at_of (j := s0 + i) (by omega) (ssV_at g1), _, rfl, o2, _, 0, .ref lw', rfl, rfl, keepT st.b ho2, atI_nat (j := 0) rfl, _, rfl, lw', _, _, _, rfl, rfl, .inl (.inl (st.b _ _ hlw' n3)), at_of (j := s1 + k) (by omega) (ssV_at g2), _, d, m, c, Tb, wd, ot, rfl, (keepP st.b).1, _, _, rfl, rfl, .inl ⟨_, rfl, _, _, rfl, ?_⟩⟩⟩
              rw [min2, ← pc, ← val1]
              refine ⟨_, rfl, _, rfl, TR, _, _, .ref t, rfl, rfl, .inl (.inl st.m.h), at_of (j := s0 + i) (by omega) (by rw [List.getElem?_map, et]; rfl), ?_⟩
              refine ⟨_, rfl, _, rfl, _, rfl, t, _, _, _, rfl, rfl, ht, ixN_nat (j := s1 + k) (by omega) (by rw [isV_len, List.length_map, List.length_range]; omega), ?_⟩
              obtain ⟨nDR, nDts⟩ := st.ne fD
              exact ⟨_, _, rfl, st.cell et, by rw [upd_ne (fun y : D = t => nDts (y ▸ List.mem_of_getElem? et))]; exact eD, imp.set tdv.symm, dn.set tdv.symm⟩
            · rw [decide_eq_false h1]
              refine iteF ⟨_, rfl, .inl ⟨_, rfl, _, rfl, _, rfl, _, rfl, ll', _, _, _, rfl, rfl, .inl (.inl (st.b _ _ hll' n4)), at_of (j := s1 + k) (by omega) (isV_at2 g4), _, rfl, q2, _, 0, _, rfl, rfl, keepT st.b hq2, atI_nat (j := 0) rfl, _, _, rfl, rfl, ra, _, _, _, rfl, rfl, .inl (.inl (st.r _ _ era).2.2.2), at_of (j := b') (by omega) (isV_at2 (tabL_at _ _ _ _ _ _ (by omega))), _, rfl, _, rfl, TR, _, _, .ref t, rfl, rfl, .inl (.inl st.m.h), at_of (j := s0 + i) (by omega) (by rw [List.getElem?_map, et]; rfl), _, rfl, t, _, _, _, rfl, rfl, .inl (.inl ht), at_of (j := s1 + k) (by omega) (isV_at2 (mcell M' (s0 + i) (by omega))), _, _, rfl, rfl, .inl ⟨_, rfl, _, _, rfl, ?_⟩⟩⟩
              rw [min2, know (fun z => h1 (by omega)), ← val2]
              exact ⟨M', _, rfl, st, eD, imp, dn.skip (fun z => h1 (by omega))⟩
          · rw [decide_eq_false h0]
            refine iteF ⟨_, rfl, .inl ⟨_, rfl, _, rfl, _, rfl, _, rfl, ll', _, _, _, rfl, rfl, .inl (.inl (st.b _ _ hll' n4)), at_of (j := s1 + k) (by omega) (isV_at2 g4), _, rfl, q2, _, 0, _, rfl, rfl, keepT st.b hq2, atI_nat (j := 0) rfl, _, _, rfl, rfl, ra, _, _, _, rfl, rfl, .inl (.inl (st.r _ _ era).2.2.2), at_of (j := b') (by omega) (isV_at2 (tabL_at _ _ _ _ _ _ (by omega))), _, rfl, _, rfl, TR, _, _, .ref t, rfl, rfl, .inl (.inl st.m.h), at_of (j := s0 + i) (by omega) (by rw [List.getElem?_map, et]; rfl), _, rfl, t, _, _, _, rfl, rfl, .inl (.inl ht), at_of (j := s1 + k) (by omega) (isV_at2 (mcell M' (s0 + i) (by omega))), _, _, rfl, rfl, .inl ⟨_, rfl, _, _, rfl, ?_⟩⟩⟩
            rw [min2, know (fun z => h0 (by omega)), ← val2]
            exact ⟨M', _, rfl, st, eD, imp, dn.skip (fun z => h0 (by omega))⟩
        rintro σ H6 ⟨M'', y17, rfl, st6, eD6, imp6, dn6⟩
        refine ⟨_, rfl, .inl ⟨rfl, _, .inl (.inl eD6)⟩, _, rfl, D, _, _, rfl, rfl, eD6, by rw [isV_len, tabL_len]; exact sz_lt (by omega), ?_⟩
        exact ⟨M'', _, _, _, _, rfl, st6.put fD nDTB nDrs, by rw [upd_same, tabL_next p A B (i + 1) (k + 1), isV_app]; rfl, imp6, dn6⟩
      · rintro σ H5 ⟨M', y8, y15, y16, y17, rfl, st, eD, imp, dn⟩
        refine ⟨_, rfl, .inl ⟨rfl, _, .inl (.inl st.t)⟩, _, rfl, TB, _, _, rfl, rfl, st.t, by rw [List.length_map, st.len]; exact sz_lt (by omega), ?_⟩
        refine ⟨rs ++ [D], M', _, _, _, _, _, _, _, _, _, rfl, st.row fD nDTB eD, imp, fun a b h1 h2 h3 h4 => dn a b h1 h2 h3 (by omega)⟩
    · rintro σ H3 ⟨rs, M', y8, y10, y11, y12, y13, y14, y15, y16, y17, rfl, st, imp, dn⟩
      obtain ⟨r, er⟩ : ∃ r, rs[A.size]? = some r := ⟨_, List.getElem?_eq_getElem (by rw [st.len]; omega)⟩
      refine ⟨_, rfl, _, rfl, q1, _, 1, _, rfl, rfl, keepT st.b hq1, atI_nat (j := 1) rfl, _, rfl, q1, _, 0, _, rfl, rfl, keepT st.b hq1, atI_nat (j := 0) rfl, _, _, rfl, rfl, _, _, rfl, rfl, TB, _, _, .ref r, rfl, rfl, .inl (.inl st.t), at_of (j := A.size) (by omega) (by rw [List.getElem?_map, er]; rfl), ?_⟩
      refine ⟨_, rfl, q2, _, 1, _, rfl, rfl, keepT st.b hq2, atI_nat (j := 1) rfl, _, rfl, q2, _, 0, _, rfl, rfl, keepT st.b hq2, atI_nat (j := 0) rfl, _, _, rfl, rfl, _, _, rfl, rfl, r, _, _, .int (tab p A B A.size B.size), rfl, rfl, .inl (.inl (st.r _ _ er).2.2.2), at_of (j := B.size) (by omega) (isV_at2 (tabL_at _ _ _ _ _ _ (by omega))), ?_⟩
      have e : tab p A B A.size B.size = dist p A B := by unfold tab; rw [tk_all, tk_all]
      rw [e]
      exact q H3 M' st.b st.m imp dn
end
end K14
set_option maxRecDepth 100000
set_option maxHeartbeats 4000000
namespace K14
open PySem PySem.Spec PyProof.Rows L2
open Fo
/-- the scope of the outer of two comprehensions -/
def scDist : Scope := { kind := .function, names := [((".0" : Str), NameKind.local), (("_law_word_here" : Str), NameKind.local), (("_law_second" : Str), NameKind.cell)], isGenerator := false, isCoroutine := false }
/-- the cells of two nodes whose stretches were taken before a, and at a before b -/
def Kw (p : Pr Str) (F F' : Fo Str) (M : Nat → Nat → Int) (a b : Nat) : Prop := ∀ i j, i < F.size → j < F'.size → ∀ α β t t', (strL (pow (leF 0 F)))[α]? = some (gI (pow (leF 0 F)) i, t) → (strL (pow (leF 0 F')))[β]? = some (gI (pow (leF 0 F')) j, t') → (α < a ∨ (α = a ∧ β < b)) → M i j = TD p F F' i j
theorem Kw.next {p : Pr Str} {F F' : Fo Str} {M : Nat → Nat → Int} {a : Nat} (h : Kw p F F' M a (strL (pow (leF 0 F'))).length) : Kw p F F' M (a + 1) 0 := fun i j hi hj α β t t' e e' q => by
  have hb := (List.getElem?_eq_some_iff.mp e').1
  exact h i j hi hj α β t t' e e' (by omega)
theorem Kw.pre {p : Pr Str} {F F' A B : Fo Str} {M : Nat → Nat → Int} {a b s0 s1 : Nat} {s t s' t' : Int} (h : Kw p F F' M a b) (ha : (strL (pow (leF 0 F)))[a]? = some (s, t)) (hb : (strL (pow (leF 0 F')))[b]? = some (s', t'))
    (hA : StrOk (pow F) (pow (leF 0 F)) a s t s0 A) (hB : StrOk (pow F') (pow (leF 0 F')) b s' t' s1 B) : ∀ i j, s0 ≤ i → i < s0 + A.size → s1 ≤ j → j < s1 + B.size → ¬ (gI (pow (leF 0 F)) i = s0 ∧ gI (pow (leF 0 F')) j = s1) → M i j = TD p F F' i j := fun i j h1 h2 h3 h4 h5 => by
  have lA := hA.seg.le.1
  have lB := hB.seg.le.1
  rw [pow_len] at lA lB
  obtain ⟨β, hβ, t2, e2⟩ := strs_cover (seg_whole F') (by rw [pow_len, leF_size]) (i := j) (by omega)
  by_cases q : gI (pow (leF 0 F)) i = s0
  · have q2 : gI (pow (leF 0 F')) j ≠ s1 := fun z => h5 ⟨q, z⟩
    obtain ⟨β', hb', t3, e3⟩ := hB.before j h3 h4 q2
    refine h i j (by omega) (by omega) a β' t t3 ?_ e3 (.inr ⟨rfl, hb'⟩)
    rw [ha, q, hA.s]
  · obtain ⟨α, ha', t3, e3⟩ := hA.before i h1 h2 q
    exact h i j (by omega) (by omega) α β t3 t2 e3 e2 (.inl ha')
theorem Kw.post {p : Pr Str} {F F' A B : Fo Str} {M M' : Nat → Nat → Int} {a b s0 s1 : Nat} {s t s' t' : Int} (h : Kw p F F' M a b) (ha : (strL (pow (leF 0 F)))[a]? = some (s, t)) (hb : (strL (pow (leF 0 F')))[b]? = some (s', t'))
    (hA : StrOk (pow F) (pow (leF 0 F)) a s t s0 A) (hB : StrOk (pow F') (pow (leF 0 F')) b s' t' s1 B) (imp : Imp p F F' M M') (dn : Dn p F F' s0 s1 B.size M' A.size 0) : Kw p F F' M' a (b + 1) := fun i j hi hj α β t2 t3 e e' q => by
  by_cases q2 : α < a ∨ (α = a ∧ β < b)
  · exact imp.know (h i j hi hj α β t2 t3 e e' q2)
  · have e1 : α = a := by omega
    have e2 : β = b := by omega
    subst e1
    subst e2
    rw [ha] at e
    rw [hb] at e'
    have g1 : gI (pow (leF 0 F)) i = s0 := by
      have := congrArg Prod.fst (Option.some.inj e)
      rw [← hA.s]
      exact this.symm
    have g2 : gI (pow (leF 0 F')) j = s1 := by
      have := congrArg Prod.fst (Option.some.inj e')
      rw [← hB.s]
      exact this.symm
    obtain ⟨k1, k2⟩ := hA.all i (by rw [pow_len, leF_size]; exact hi) g1
    obtain ⟨k3, k4⟩ := hB.all j (by rw [pow_len, leF_size]; exact hj) g2
    exact dn i j k1 k3 k4 (.inl k2) g1 g2
theorem zeros (n : Nat) : (List.range n).map (fun _ : Nat => (0 : Int)) = List.replicate n 0 := by
  rw [List.map_const', List.length_range]
section
variable {P : Program} {w : World} {K : PySem.W.Frag} {mg : Str → Option Value} {base : Heap}
theorem sclawdistance : FnScope ["_law_first", "_law_second", "_law_prices_here", "_law_one", "_law_other_here", "_law_trees", "_law_price_here", "_law_stretch", "_law_far", "_law_word_here"] ["_law_first", "_law_second", "_law_prices_here"] (defScope (topS 61)) := ⟨rfl, rfl, rfl, by decide +kernel, rfl, by decide +kernel, by decide +kernel⟩
def spDistance (K : PySem.W.Frag) : Sp := fun vs H Q _ => ∃ f1 f2 vp lw lp lw' lp' d m c T F F', vs = [.ref f1, .ref f2, vp] ∧ H f1 = some (.tup [.ref lw, .ref lp]) ∧ H f2 = some (.tup [.ref lw', .ref lp']) ∧ H lw = some (.lst (ssV (prw F))) ∧ H lp = some (.lst (isV (prw (parF (-1) 0 F)))) ∧ H lw' = some (.lst (ssV (prw F'))) ∧ H lp' = some (.lst (isV (prw (parF (-1) 0 F')))) ∧
  Dp K H vp (prD d m c T) ∧ F.size ≤ 100 ∧ F'.size ≤ 100 ∧ ∀ H', Same H H' → Q (.int (dist (prOf d m c T) F F')) H'
theorem ok_law_distance (T : Top P K mg) : FnOk P w K mg base CX0 4 T.d_law_distance.f T.d_law_distance.fd ["_law_first", "_law_second", "_law_prices_here"] (spDistance K) := by
  refine T.d_law_distance.F.ok sclawdistance (fun vs H Q E h => ?_) (fun cdv Ar outer s H vs Q E hr h => ?_)
  · obtain ⟨f1, f2, vp, lw, lp, lw', lp', d, m, c, T, F, F', rfl, _⟩ := h
    rfl
  · obtain ⟨f1, f2, vp, lw, lp, lw', lp', d, m, c, Tb, F, F', rfl, hf1, hf2, hlw, hlp, hlw', hlp', hp, hF, hF', q⟩ := h
    refine ⟨_, pss_cons (ps_set (i := 3) sclawdistance.nd rfl (.inl rfl) (pe_call (ok_law_posted T) (hr.mono (by omega)) rfl T.d_law_posted.g T.d_law_posted.F.kp T.d_law_posted.b .nil pass0 (pa_cons (pe_ix ix_tup (pv 0) (pe_int) (fun _ _ => rfl)) (pa_cons (pe_ix ix_tup (pv 0) (pe_int) (fun _ _ => rfl)) pa_nil))))
      (pss_cons (ps_set (i := 4) sclawdistance.nd rfl (.inl rfl) (pe_call (ok_law_posted T) (hr.mono (by omega)) rfl T.d_law_posted.g T.d_law_posted.F.kp T.d_law_posted.b .nil pass0 (pa_cons (pe_ix ix_tup (pv 1) (pe_int) (fun _ _ => rfl)) (pa_cons (pe_ix ix_tup (pv 1) (pe_int) (fun _ _ => rfl)) pa_nil))))
      (pss_cons (ps_setLc (i := 5) (own := [("_law_word_here", 9)]) (g := gName 9) (tt := tYes) rfl sclawdistance.nd rfl rfl (sw_true rfl rfl rfl (by decide +kernel)) (pi_list (pe_ix ix_tup (pv 0) (pe_int) (fun _ _ => rfl))) (blkOk_by (own := [("_law_word_here", 9)]) (N := ["_law_first", "_law_second", "_law_prices_here", "_law_one", "_law_other_here", "_law_trees", "_law_price_here", "_law_stretch", "_law_far", "_law_word_here"]) (sc := defScope (topS 61)) (by decide +kernel)) (fun _ _ _ _ _ => pg_name (i := 9) sclawdistance.nd rfl (.inl rfl)) (fun _ _ _ _ _ => pts_nil) (fun _ _ _ _ _ => pe_lc (own := [("_law_word_here", 9)]) (g := gName 9) (tt := tYes) rfl sclawdistance.nd (piL (K := K) rfl (pe_ix (ixT (K := K) rfl) (pv 1) (pe_int) (fun _ _ => rfl))) (blkOk_by (own := [("_law_word_here", 9)]) (N := ["_law_first", "_law_second", "_law_prices_here", "_law_one", "_law_other_here", "_law_trees", "_law_price_here", "_law_stretch", "_law_far", "_law_word_here"]) (sc := scDist) (by decide +kernel)) (fun _ _ _ _ _ => pg_name (i := 9) sclawdistance.nd rfl (.inl rfl)) (fun _ _ _ _ _ => pts_nil) (fun _ _ _ _ _ => pe_int)))
      (pss_cons (ps_set (i := 6) sclawdistance.nd rfl (.inl rfl) (pe_int))
      (pss_cons (ps_for PassesOwn.never rfl (pi_list (pe_call (ok_law_stretches T) (hr.mono (by omega)) rfl T.d_law_stretches.g T.d_law_stretches.F.kp T.d_law_stretches.b .nil pass0 (pa_cons (pe_ix ix_tup (pv 3) (pe_int) (fun _ _ => rfl)) pa_nil))) (pg_name (i := 7) sclawdistance.nd rfl (.inl rfl))
      (pss_one (ps_for PassesOwn.never rfl (pi_list (pe_call (ok_law_stretches T) (hr.mono (by omega)) rfl T.d_law_stretches.g T.d_law_stretches.F.kp T.d_law_stretches.b .nil pass0 (pa_cons (pe_ix ix_tup (pv 4) (pe_int) (fun _ _ => rfl)) pa_nil))) (pg_name (i := 8) sclawdistance.nd rfl (.inl rfl))
      (pss_one (ps_set (i := 6) sclawdistance.nd rfl (.inl rfl) (pe_call (ok_law_filled T) (hr.mono (by omega)) rfl T.d_law_filled.g T.d_law_filled.F.kp T.d_law_filled.b .nil pass0 (pa_cons (pv 3) (pa_cons (pv 4) (pa_cons (pv 2) (pa_cons (pv 5) (pa_cons (pv 7) (pa_cons (pv 8) pa_nil))))))))))))
      (pss_one (ps_ret (pv 6))))))), ?_⟩
    refine ⟨_, rfl, f1, _, 0, .ref lw, rfl, rfl, .inl (.inl hf1), atI_nat (j := 0) rfl, _, rfl, f1, _, 1, .ref lp, rfl, rfl, .inl (.inl hf1), atI_nat (j := 1) rfl, lw, lp, F, rfl, .inl (.inl hlw), .inl (.inl hlp), hF, fun H1 o1 rw1 ll1 s1 ho1 hrw1 hll1 => ?_⟩
    refine ⟨_, rfl, f2, _, 0, .ref lw', rfl, rfl, .inl (.inl (s1 _ _ hf2)), atI_nat (j := 0) rfl, _, rfl, f2, _, 1, .ref lp', rfl, rfl, .inl (.inl (s1 _ _ hf2)), atI_nat (j := 1) rfl, lw', lp', F', rfl, .inl (.inl (s1 _ _ hlw')), .inl (.inl (s1 _ _ hlp')), hF', fun H2 o2 rw2 ll2 s2 ho2 hrw2 hll2 => ?_⟩
    have s12 := s1.trans s2
    have n1 : (ssV (prw F)).length = F.size := by rw [ssV_len, prw_len]
    have n2 : (ssV (prw F')).length = F'.size := by rw [ssV_len, prw_len]
    -- the table of trees
    refine ⟨_, rfl, f1, _, 0, .ref lw, rfl, rfl, .inl (.inl (s12 _ _ hf1)), atI_nat (j := 0) rfl, lw, rfl, ⟨_, .inl (.inl (s12 _ _ hlw))⟩, fun TR nTR => ?_⟩
    refine lc_it (walk_list (K := K) (xs := ssV (prw F))) (fun i H' => ∃ ts : List Addr, ts.length = i ∧ Same H2 H' ∧ H' TR = some (.lst (ts.map V.ref)) ∧ ts.Nodup ∧ ¬ TR ∈ ts ∧ ∀ t ∈ ts, H2 t = none ∧ H' t = some (.lst (isV (List.replicate F'.size 0)))) ⟨[], rfl, same_new nTR, upd_same, List.nodup_nil, (fun h => nomatch h), fun _ h => nomatch h⟩ (fun i H' _ h => ?_) ?_ ?_
    · obtain ⟨_, _, s3, _⟩ := h
      exact .inl (.inl (s3 _ _ (s12 _ _ hlw)))
    · rintro i x H4 H3 hi ⟨ts, hl, s3, eT, nd, nT, ha⟩ ⟨rfl, _⟩
      rw [n1] at hi
      have s03 := s12.trans s3
      refine ⟨rfl, _, rfl, f2, _, 0, .ref lw', rfl, rfl, .inl (.inl (s03 _ _ hf2)), atI_nat (j := 0) rfl, lw', rfl, ⟨_, .inl (.inl (s03 _ _ hlw'))⟩, fun D nD => ?_⟩
      refine lc_it (walk_list (K := K) (xs := ssV (prw F'))) (fun j H' => Same H3 H' ∧ H' D = some (.lst (isV (List.replicate j 0)))) ⟨same_new nD, upd_same⟩ (fun i H' _ h => .inl (.inl (h.1 _ _ (s03 _ _ hlw')))) ?_ ?_
      · rintro j x H5 H6 hj ⟨s5, e5⟩ ⟨rfl, _⟩
        rw [n2] at hj
        refine ⟨rfl, _, e5, ?_, same_set s5 nD, ?_⟩
        · rw [isV_len, List.length_replicate]
          exact sz_lt (by omega)
        · rw [upd_same, ← rep_next, isV_app]
          rfl
      · rintro H5 ⟨s5, e5⟩
        rw [n2] at e5
        have eT5 := s5 _ _ eT
        have nDT : D ≠ TR := (ne_of_none eT nD).symm
        refine ⟨_, eT5, by rw [List.length_map, hl]; exact sz_lt (by omega), ts ++ [D], by rw [List.length_append, hl]; rfl, same_set (s3.trans s5) nTR, by rw [upd_same, List.map_append]; rfl, ?_, ?_, ?_⟩
        · refine List.nodup_append.mpr ⟨nd, List.nodup_cons.mpr ⟨by simp, List.nodup_nil⟩, fun a h b hb e => ?_⟩
          have := (ha a h).2
          rw [e, List.mem_singleton.mp hb, nD] at this
          cases this
        · intro h
          rcases List.mem_append.mp h with h | h
          · exact nT h
          · exact nDT (List.mem_singleton.mp h).symm
        · intro t h
          rcases List.mem_append.mp h with h | h
          · refine ⟨(ha t h).1, ?_⟩
            rw [upd_ne (fun e : t = TR => nT (e ▸ h))]
            exact s5 _ _ (ha t h).2
          · rw [List.mem_singleton.mp h]
            exact ⟨s3.free nD, by rw [upd_ne nDT]; exact e5⟩
    rintro H3 ⟨ts, hl, s3, eT, nd, nT, ha⟩
    rw [n1] at hl
    have s03 := s12.trans s3
    have nts : ∀ {x o}, H2 x = some o → ¬ x ∈ ts := fun {x o} e mm => by
      rw [(ha x mm).1] at e
      cases e
    have ho1 := s3 _ _ (s2 _ _ ho1)
    have hm1 : ¬ rw1 ∈ ts := nts (s2 _ _ hrw1)
    have hm2 : ¬ ll1 ∈ ts := nts (s2 _ _ hll1)
    have hm3 : ¬ rw2 ∈ ts := nts hrw2
    have hm4 : ¬ ll2 ∈ ts := nts hll2
    have ntup : ∀ {x o}, H3 x = some o → tupO o → ¬ x ∈ ts := fun {x o} e t mm => by
      rw [(ha x mm).2] at e
      cases e
      exact t
    have keepS : ∀ {H' : Hp}, ButM ts H3 H' → SameT H3 H' := fun {H'} b c o e n => b c o e (ntup e n)
    have hrw1 := s3 _ _ (s2 _ _ hrw1)
    have hll1 := s3 _ _ (s2 _ _ hll1)
    have ho2 := s3 _ _ ho2
    have hrw2 := s3 _ _ hrw2
    have hll2 := s3 _ _ hll2
    have hp3 := dp_same s03 hp
    have hM0 : MatAt H3 TR ts F'.size (fun _ _ => 0) := ⟨eT, nd, nT, fun i t e => by rw [zeros]; exact (ha t (List.mem_of_getElem? e)).2⟩
    generalize hpr : prOf d m c Tb = p at q
    have lF : (pow (leF 0 F)).length = F.size := by rw [pow_len, leF_size]
    have lF' : (pow (leF 0 F')).length = F'.size := by rw [pow_len, leF_size]
    have lS := strs_len (pow (leF 0 F))
    have lS' := strs_len (pow (leF 0 F'))
    -- a list of tuples is no row of ints
    have notRow : ∀ {H' : Hp} {M : Nat → Nat → Int} {l : Addr} {qs : List Addr}, MatAt H' TR ts F'.size M → H' l = some (.lst (qs.map V.ref)) → 1 ≤ qs.length → ¬ l ∈ ts := fun {H' M l qs} hM e hq mm => by
      obtain ⟨k, hk⟩ := List.getElem?_of_mem mm
      rw [hM.at_ k l hk] at e
      match qs, hq with
      | q :: r, _ =>
        injection e with e
        injection e with e
        generalize (List.range F'.size).map (M k) = row at e
        match row, e with
        | [], e => cases e
        | z :: zs, e =>
          injection e with e
          cases e
    refine ⟨_, rfl, o1, _, 1, .ref ll1, rfl, rfl, .inl (.inl ho1), atI_nat (j := 1) rfl, ll1, _, rfl, .inl (.inl hll1), by rw [lF]; omega, fun H4 l qs s4 el hqs => ⟨l, rfl, ⟨_, .inl (.inl el)⟩, ?_⟩⟩
    have hM4 : MatAt H4 TR ts F'.size (fun _ _ => 0) := ⟨s4 _ _ hM0.h, nd, nT, fun i t e => s4 _ _ (hM0.at_ i t e)⟩
    have nl := notRow hM4 el (by rw [hqs.len]; exact lS)
    have b4 : ButM ts H3 H4 := fun c o e _ => s4 _ _ e
    have hqlen : (qs.map V.ref).length = (strL (pow (leF 0 F))).length := by rw [List.length_map, hqs.len]
    refine for_it (walk_list (K := K) (xs := qs.map V.ref)) (fun a σ H' => ∃ M y6 y7 y8, σ = [some (.ref f1), some (.ref f2), some vp, some (.ref o1), some (.ref o2), some (.ref TR), some y6, y7, y8, none] ∧ ButM ts H3 H' ∧ H' l = some (.lst (qs.map V.ref)) ∧ PairsAt H' qs (strL (pow (leF 0 F))) ∧ MatAt H' TR ts F'.size M ∧ Kw p F F' M a 0 ∧ (a = (strL (pow (leF 0 F))).length → y6 = .int (dist p F F')))
      ⟨_, _, _, _, rfl, b4, el, hqs, hM4, (fun i j _ _ α β t t' _ _ h => by omega), fun h => by omega⟩ (fun a σ H' _ ⟨_, _, _, _, _, _, e, _⟩ => .inl (.inl e)) ?_ ?_
    · rintro a x σ H6 H5 hi ⟨M, y6, y7, y8, rfl, b5, el5, hqs5, hM5, kw, _⟩ ⟨rfl, hx⟩
      rw [hqlen] at hi
      obtain ⟨q1, hq1⟩ : ∃ q1, qs[a]? = some q1 := ⟨_, List.getElem?_eq_getElem (by rw [hqs.len]; exact hi)⟩
      have hx : V.ref q1 = x := by
        rw [List.getElem?_map, hq1] at hx
        exact Option.some.inj hx
      subst hx
      refine ⟨_, rfl, o2, _, 1, .ref ll2, rfl, rfl, .inl (.inl (keepS b5 _ _ ho2 trivial)), atI_nat (j := 1) rfl, ll2, _, rfl, .inl (.inl (b5 _ _ hll2 hm4)), by rw [lF']; omega, fun H6 l' qs' s6 el' hqs' => ⟨l', rfl, ⟨_, .inl (.inl el')⟩, ?_⟩⟩
      have hM6 : MatAt H6 TR ts F'.size M := ⟨s6 _ _ hM5.h, nd, nT, fun i t e => s6 _ _ (hM5.at_ i t e)⟩
      have nl' := notRow hM6 el' (by rw [hqs'.len]; exact lS')
      have b6 : ButM ts H3 H6 := fun c o e nm => s6 _ _ (b5 c o e nm)
      have hqlen' : (qs'.map V.ref).length = (strL (pow (leF 0 F'))).length := by rw [List.length_map, hqs'.len]
      refine for_it (walk_list (K := K) (xs := qs'.map V.ref)) (fun b σ H' => ∃ M y6 y8, σ = [some (.ref f1), some (.ref f2), some vp, some (.ref o1), some (.ref o2), some (.ref TR), some y6, some (.ref q1), y8, none] ∧ ButM ts H3 H' ∧ H' l = some (.lst (qs.map V.ref)) ∧ PairsAt H' qs (strL (pow (leF 0 F))) ∧ H' l' = some (.lst (qs'.map V.ref)) ∧ PairsAt H' qs' (strL (pow (leF 0 F'))) ∧ MatAt H' TR ts F'.size M ∧ Kw p F F' M a b ∧ (a + 1 = (strL (pow (leF 0 F))).length → b = (strL (pow (leF 0 F'))).length → y6 = .int (dist p F F')))
        ⟨M, y6, y8, rfl, b6, s6 _ _ el5, hqs5.sameT (sameT_of s6), el', hqs', hM6, kw, fun _ h => by omega⟩ (fun a σ H' _ ⟨_, _, _, _, _, _, _, e, _⟩ => .inl (.inl e)) ?_ ?_
      · rintro b x σ H8 H7 hj ⟨M, y6, y8, rfl, b7, el7, hqs7, el7', hqs7', hM7, kw, _⟩ ⟨rfl, hx⟩
        rw [hqlen'] at hj
        obtain ⟨q2, hq2⟩ : ∃ q2, qs'[b]? = some q2 := ⟨_, List.getElem?_eq_getElem (by rw [hqs'.len]; exact hj)⟩
        have hx : V.ref q2 = x := by
          rw [List.getElem?_map, hq2] at hx
          exact Option.some.inj hx
        subst hx
        obtain ⟨s, t, g1, e1⟩ := hqs7.at_ a q1 hq1
        obtain ⟨s', t', g2, e2⟩ := hqs7'.at_ b q2 hq2
        obtain ⟨s0, A, okA, lastA⟩ := strs_ok (seg_whole F) lF g1
        obtain ⟨s1', B, okB, lastB⟩ := strs_ok (seg_whole F') lF' g2
        have hs := okA.s
        have ht := okA.t
        have hs' := okB.s
        have ht' := okB.t
        subst hs
        subst ht
        subst hs'
        subst ht'
        have tk := keepS b7
        refine ⟨_, rfl, _, rfl, _, rfl, _, rfl, _, rfl, _, rfl, o1, o2, vp, TR, q1, q2, rw1, ll1, rw2, ll2, ts, d, m, c, Tb, F, F', s0, A, s1', B, M, rfl, ⟨tk _ _ ho1 trivial, tk _ _ ho2 trivial, b7 _ _ hrw1 hm1, b7 _ _ hll1 hm2, b7 _ _ hrw2 hm3, b7 _ _ hll2 hm4, dp_sameT tk (noList_pr _ _ _ _) hp3⟩, e1, e2, okA.seg, okB.seg, hM7, hl, ⟨hm1, hm2, hm3, hm4⟩, hF, hF', ?_, ?_⟩
        · rw [hpr]
          exact kw.pre g1 g2 okA okB
        · rw [hpr]
          intro H8 M' b8 hM8 imp dn
          have t8 : SameT H7 H8 := fun c o e n => b8 c o e (fun mm => by
            obtain ⟨k, hk⟩ := List.getElem?_of_mem mm
            rw [hM7.at_ k c hk] at e
            cases e
            exact n)
          refine ⟨M', .int (dist p A B), _, rfl, fun c o e nm => b8 _ _ (b7 c o e nm) nm, b8 _ _ el7 nl, hqs7.sameT t8, b8 _ _ el7' nl', hqs7'.sameT t8, hM8, kw.post g1 g2 okA okB imp dn, fun h1 h2 => ?_⟩
          rw [(lastA (by omega)).2, (lastB (by omega)).2]
      · rintro σ H7 ⟨M, y6, y8, rfl, b7, el7, hqs7, el7', hqs7', hM7, kw, hy⟩
        rw [hqlen'] at kw hy
        exact ⟨M, y6, _, _, rfl, b7, el7, hqs7, hM7, kw.next, fun h => hy h rfl⟩
    · rintro σ H5 ⟨M, y6, y7, y8, rfl, b5, _, _, _, _, hy⟩
      have hy := hy hqlen
      subst hy
      exact ⟨_, rfl, q H5 fun c o e => b5 _ _ (s03 _ _ e) (nts (s12 _ _ e))⟩
end
end K14
set_option maxRecDepth 100000
set_option maxHeartbeats 4000000
namespace K14
open PySem PySem.Spec PyProof.Rows L2
open Fo
theorem kit_seq (K : PySem.W.Frag) (d : PyData) : PySem.W.kitAny K (.type (dTy d)) [.type "tuple", .type "list"] = some (dTupleB d || dListB d) := by
  unfold PySem.W.kitAny
  rw [isi_tuple]
  cases d <;> first | rfl | (show PySem.W.kitAny K _ [.type "list"] = _; unfold PySem.W.kitAny; rw [isi_list]; rfl)
section
variable {P : Program} {w : World} {K : PySem.W.Frag} {mg : Str → Option Value} {base : Heap}
theorem sclawalike : FnScope ["_law_told", "_law_due", "_law_k"] ["_law_told", "_law_due"] (defScope (topS 56)) := ⟨rfl, rfl, rfl, by decide +kernel, rfl, by decide +kernel, by decide +kernel⟩
def spAlike (K : PySem.W.Frag) (n : Nat) : Sp := fun vs H Q _ => ∃ u v d m, vs = [u, v] ∧ Dp K H u d ∧ Dp K H v d ∧ fit d m = true ∧ m < n ∧ ∀ H', Same H H' → Q (.bl true) H'
theorem ok_alike_n (T : Top P K mg) : ∀ n, FnOk P w K mg base CX0 n T.d_law_alike.f T.d_law_alike.fd ["_law_told", "_law_due"] (spAlike K n)
  | 0 => by
    have no : ∀ vs H Q E, ¬ spAlike K 0 vs H Q E := fun vs H Q E h => by
      obtain ⟨u, v, d, m, _, _, _, _, hm, _⟩ := h
      omega
    exact ⟨fun vs H Q E h => absurd h (no vs H Q E), fun A outer s H args us vs Q E _ _ _ _ h => absurd h (no vs H Q E)⟩
  | n + 1 => by
    have G : FnOk P w K mg base CX0 n T.d_law_alike.f T.d_law_alike.fd ["_law_told", "_law_due"] (spAlike K n) := ok_alike_n T n
    refine T.d_law_alike.F.ok sclawalike (fun vs H Q E h => ?_) (fun cdv A outer s H vs Q E hr h => ?_)
    · obtain ⟨u, v, d, m, rfl, _⟩ := h
      rfl
    obtain ⟨u, v, d, m, rfl, hd1, hd2, hf, hm, q⟩ := h
    refine ⟨_, pss_cons (ps_if (pt_val (pe_callB call_isiT rfl T.z_isinstance (by decide +kernel) (pa_cons (pv 1) (pa_cons (pe_tup (pa_cons (pe_bltn (v := .ty "tuple") (by rfl) T.z_tuple boot_tuple rfl) (pa_cons (pe_bltn (v := .ty "list") (by rfl) T.z_list boot_list rfl) pa_nil))) pa_nil))))
      (pss_cons (ps_if (PW.pt (pw_or (pt_cmpR op_ne (pe_callB call_isi rfl T.z_isinstance (by decide +kernel) (pa_cons (pv 0) (pa_cons (pe_bltn (v := .ty "tuple") (by rfl) T.z_tuple boot_tuple rfl) pa_nil))) (pe_callB call_isi rfl T.z_isinstance (by decide +kernel) (pa_cons (pv 1) (pa_cons (pe_bltn (v := .ty "tuple") (by rfl) T.z_tuple boot_tuple rfl) pa_nil))) (nomark _)) (pw_or1 (pt_cmpR op_ne (pe_callB call_isi rfl T.z_isinstance (by decide +kernel) (pa_cons (pv 0) (pa_cons (pe_bltn (v := .ty "list") (by rfl) T.z_list boot_list rfl) pa_nil))) (pe_callB call_isi rfl T.z_isinstance (by decide +kernel) (pa_cons (pv 1) (pa_cons (pe_bltn (v := .ty "list") (by rfl) T.z_list boot_list rfl) pa_nil))) (nomark _)))))
      (pss_one (ps_ret (pe_bl)))
      (pss_nil))
      (pss_cons (ps_if (pt_cmpR op_ne (pe_callB call_len_seq rfl T.z_len PySem.boot_len (pa_cons (pv 0) pa_nil)) (pe_callB call_len_seq rfl T.z_len PySem.boot_len (pa_cons (pv 1) pa_nil)) (nomark _))
      (pss_one (ps_ret (pe_bl)))
      (pss_nil))
      (pss_cons (ps_for PassesOwn.never rfl (pi_range1 rfl T.z_range (pa_cons (pe_callB call_len_seq rfl T.z_len PySem.boot_len (pa_cons (pv 1) pa_nil)) pa_nil)) (pg_name (i := 2) sclawalike.nd rfl (.inl rfl))
      (pss_one (ps_if (pt_not (pt_val (pe_call G (hr.mono (by omega)) rfl T.d_law_alike.g T.d_law_alike.F.kp T.d_law_alike.b .nil pass0 (pa_cons (pe_ix ix_seq (pv 0) (pv 2) (fun _ _ => rfl)) (pa_cons (pe_ix ix_seq (pv 1) (pv 2) (fun _ _ => rfl)) pa_nil)))))
      (pss_one (ps_ret (pe_bl)))
      (pss_nil))))
      (pss_one (ps_ret (pe_bl))))))
      (pss_nil))
      (pss_cons (ps_if (pt_cmpR op_isN (pv 1) (pe_non) (nomark _))
      (pss_one (ps_ret (pe_cmpR op_isN (pv 0) (pe_non) (nomark _))))
      (pss_nil))
      (pss_cons (ps_if (pt_val (pe_callB call_isi rfl T.z_isinstance (by decide +kernel) (pa_cons (pv 1) (pa_cons (pe_bltn (v := .ty "bool") (by rfl) T.z_bool boot_bool rfl) pa_nil))))
      (pss_one (ps_ret (pe_and (pe_callB call_isi rfl T.z_isinstance (by decide +kernel) (pa_cons (pv 0) (pa_cons (pe_bltn (v := .ty "bool") (by rfl) T.z_bool boot_bool rfl) pa_nil))) (pe_one (pe_cmpR op_eq (pv 0) (pv 1) (nomark _))))))
      (pss_nil))
      (pss_cons (ps_if (pt_val (pe_callB call_isi rfl T.z_isinstance (by decide +kernel) (pa_cons (pv 1) (pa_cons (pe_bltn (v := .ty "str") (by rfl) T.z_str boot_str rfl) pa_nil))))
      (pss_one (ps_ret (pe_and (pe_callB call_isi rfl T.z_isinstance (by decide +kernel) (pa_cons (pv 0) (pa_cons (pe_bltn (v := .ty "str") (by rfl) T.z_str boot_str rfl) pa_nil))) (pe_one (pe_cmpR op_eq (pv 0) (pv 1) (nomark _))))))
      (pss_nil))
      (pss_one (ps_ret (pe_and (pe_callB call_isi rfl T.z_isinstance (by decide +kernel) (pa_cons (pv 0) (pa_cons (pe_bltn (v := .ty "int") (by rfl) T.z_int boot_int rfl) pa_nil))) (pe_and (pe_not (pe_callB call_isi rfl T.z_isinstance (by decide +kernel) (pa_cons (pv 0) (pa_cons (pe_bltn (v := .ty "bool") (by rfl) T.z_bool boot_bool rfl) pa_nil)))) (pe_one (pe_cmpR op_eq (pv 0) (pv 1) (nomark _)))))))))), ?_⟩
    refine ⟨_, rfl, by show 2 ≤ sizeLine; decide, fun tp ntp => ⟨v, tp, _, _, _, _, rfl, upd_same, .cons (.ty _) (.cons (.ty _) .nil), ty_dp (dp_same (same_new ntp) hd2), kit_seq K d, _, rfl, ?_⟩⟩
    have s1 : Same H (upd H tp (.tup [.ty "tuple", .ty "list"])) := same_new ntp
    have hd1 := dp_same s1 hd1
    have hd2 := dp_same s1 hd2
    generalize upd H tp (.tup [.ty "tuple", .ty "list"]) = H1 at s1 hd1 hd2 ⊢
    cases d with
    | tuple ds =>
      refine iteT ?_
      obtain ⟨a1, xs, rfl, hS1, hA1⟩ := dp_tup hd1
      obtain ⟨a2, ys, rfl, hS2, hA2⟩ := dp_tup hd2
      obtain ⟨m', rfl, hlen, hft⟩ := fit_tup hf
      have l1 := dpAll_len hA1
      have l2 := dpAll_len hA2
      refine ⟨_, rfl, _, _, _, _, _, rfl, .ty "tuple", ty_dp hd1, isi_tuple K _, _, rfl, _, _, _, _, _, rfl, .ty "tuple", ty_dp hd2, isi_tuple K _, rfl, _, rfl, ?_⟩
      rw [decide_eq_true rfl]
      refine iteF ⟨_, rfl, _, _, _, _, _, rfl, .ty "list", ty_dp hd1, isi_list K _, _, rfl, _, _, _, _, _, rfl, .ty "list", ty_dp hd2, isi_list K _, rfl, _, rfl, ?_⟩
      rw [decide_eq_true rfl]
      refine iteF ⟨_, rfl, a1, _, rfl, .inr hS1, _, rfl, a2, _, rfl, .inr hS2, rfl, _, rfl, ?_⟩
      rw [decide_eq_true (show V.int (xs.length : Int) = V.int (ys.length : Int) by rw [l1, l2])]
      refine iteF ⟨_, rfl, a2, _, rfl, .inr hS2, ((ds.length : Nat) : Int), by rw [l2], by omega, by omega, ?_⟩
      rw [Int.toNat_natCast]
      refine for_it walk_range (fun i σ H' => ∃ y, σ = [some (.ref a1), some (.ref a2), y] ∧ Same H1 H') ⟨none, rfl, Same.refl _⟩ (fun _ _ _ _ _ => trivial) ?_ ?_
      · rintro i x σ H3 H2 hi ⟨y, rfl, s2⟩ ⟨rfl, hx⟩
        have hx : x = V.int (i : Int) := hx.trans (by show V.int (0 + (i : Int)) = _; rw [Int.zero_add])
        subst hx
        obtain ⟨x1, e1⟩ : ∃ x1, xs[i]? = some x1 := ⟨_, List.getElem?_eq_getElem (by omega)⟩
        obtain ⟨x2, e2⟩ : ∃ x2, ys[i]? = some x2 := ⟨_, List.getElem?_eq_getElem (by omega)⟩
        obtain ⟨z, ez, dz1⟩ := dpAll_get (dps_same s2 hA1) e1
        obtain ⟨z2, ez2, dz2⟩ := dpAll_get (dps_same s2 hA2) e2
        rw [ez] at ez2
        cases ez2
        refine ⟨_, rfl, _, rfl, .inr <| .inl ⟨a1, _, _, _, rfl, rfl, same_t s2 hS1, atI_nat e1, _, rfl, _, rfl, .inr <| .inl ⟨a2, _, _, _, rfl, rfl, same_t s2 hS2, atI_nat e2, x1, x2, z, m', rfl, dz1, dz2, fitAll_at hft ez, by omega, fun H4 s4 => ⟨_, rfl, iteF ⟨_, rfl, s2.trans s4⟩⟩⟩⟩⟩
      · rintro σ H2 ⟨y, rfl, s2⟩
        exact q H2 (s1.trans s2)
    | list ds =>
      refine iteT ?_
      obtain ⟨a1, xs, rfl, hS1, hA1⟩ := dp_lst hd1
      obtain ⟨a2, ys, rfl, hS2, hA2⟩ := dp_lst hd2
      obtain ⟨m', rfl, hlen, hft⟩ := fit_lst hf
      have l1 := dpAll_len hA1
      have l2 := dpAll_len hA2
      refine ⟨_, rfl, _, _, _, _, _, rfl, .ty "tuple", ty_dp hd1, isi_tuple K _, _, rfl, _, _, _, _, _, rfl, .ty "tuple", ty_dp hd2, isi_tuple K _, rfl, _, rfl, ?_⟩
      rw [decide_eq_true rfl]
      refine iteF ⟨_, rfl, _, _, _, _, _, rfl, .ty "list", ty_dp hd1, isi_list K _, _, rfl, _, _, _, _, _, rfl, .ty "list", ty_dp hd2, isi_list K _, rfl, _, rfl, ?_⟩
      rw [decide_eq_true rfl]
      refine iteF ⟨_, rfl, a1, _, rfl, .inl hS1, _, rfl, a2, _, rfl, .inl hS2, rfl, _, rfl, ?_⟩
      rw [decide_eq_true (show V.int (xs.length : Int) = V.int (ys.length : Int) by rw [l1, l2])]
      refine iteF ⟨_, rfl, a2, _, rfl, .inl hS2, ((ds.length : Nat) : Int), by rw [l2], by omega, by omega, ?_⟩
      rw [Int.toNat_natCast]
      refine for_it walk_range (fun i σ H' => ∃ y, σ = [some (.ref a1), some (.ref a2), y] ∧ Same H1 H') ⟨none, rfl, Same.refl _⟩ (fun _ _ _ _ _ => trivial) ?_ ?_
      · rintro i x σ H3 H2 hi ⟨y, rfl, s2⟩ ⟨rfl, hx⟩
        have hx : x = V.int (i : Int) := hx.trans (by show V.int (0 + (i : Int)) = _; rw [Int.zero_add])
        subst hx
        obtain ⟨x1, e1⟩ : ∃ x1, xs[i]? = some x1 := ⟨_, List.getElem?_eq_getElem (by omega)⟩
        obtain ⟨x2, e2⟩ : ∃ x2, ys[i]? = some x2 := ⟨_, List.getElem?_eq_getElem (by omega)⟩
        obtain ⟨z, ez, dz1⟩ := dpAll_get (dps_same s2 hA1) e1
        obtain ⟨z2, ez2, dz2⟩ := dpAll_get (dps_same s2 hA2) e2
        rw [ez] at ez2
        cases ez2
        refine ⟨_, rfl, _, rfl, .inl ⟨a1, _, _, _, rfl, rfl, s2.seq hS1, atI_nat e1, _, rfl, _, rfl, .inl ⟨a2, _, _, _, rfl, rfl, s2.seq hS2, atI_nat e2, x1, x2, z, m', rfl, dz1, dz2, fitAll_at hft ez, by omega, fun H4 s4 => ⟨_, rfl, iteF ⟨_, rfl, s2.trans s4⟩⟩⟩⟩⟩
      · rintro σ H2 ⟨y, rfl, s2⟩
        exact q H2 (s1.trans s2)
    | none =>
      refine iteF ?_
      cases hd1
      cases hd2
      exact ⟨_, rfl, rfl, _, rfl, iteT ⟨_, rfl, rfl, q H1 s1⟩⟩
    | dict kv => exact nomatch hd1
    | bool b =>
      refine iteF ?_
      cases hd1
      cases hd2
      refine ⟨_, rfl, rfl, _, rfl, iteF ?_⟩
      refine ⟨_, rfl, _, _, _, _, _, rfl, .ty "bool", ty_dp (Dp.bl b), isi_bool K (.bool b), _, rfl, iteT ?_⟩
      refine ⟨_, rfl, _, _, _, _, _, rfl, .ty "bool", ty_dp (Dp.bl b), isi_bool K (.bool b), _, rfl, ?_⟩
      refine iteT ⟨_, rfl, _, rfl, rfl, ?_⟩
      rw [decide_eq_true rfl]
      exact q H1 s1
    | str x =>
      refine iteF ?_
      cases hd1
      cases hd2
      refine ⟨_, rfl, rfl, _, rfl, iteF ?_⟩
      refine ⟨_, rfl, _, _, _, _, _, rfl, .ty "bool", ty_dp (Dp.str x), isi_bool K (.str x), _, rfl, iteF ?_⟩
      refine ⟨_, rfl, _, _, _, _, _, rfl, .ty "str", ty_dp (Dp.str x), isi_str K (.str x), _, rfl, iteT ?_⟩
      refine ⟨_, rfl, _, _, _, _, _, rfl, .ty "str", ty_dp (Dp.str x), isi_str K (.str x), _, rfl, ?_⟩
      refine iteT ⟨_, rfl, _, rfl, rfl, ?_⟩
      rw [decide_eq_true rfl]
      exact q H1 s1
    | int i =>
      refine iteF ?_
      cases hd1
      cases hd2
      refine ⟨_, rfl, rfl, _, rfl, iteF ?_⟩
      refine ⟨_, rfl, _, _, _, _, _, rfl, .ty "bool", ty_dp (Dp.int i), isi_bool K (.int i), _, rfl, iteF ?_⟩
      refine ⟨_, rfl, _, _, _, _, _, rfl, .ty "str", ty_dp (Dp.int i), isi_str K (.int i), _, rfl, iteF ?_⟩
      refine ⟨_, rfl, _, _, _, _, _, rfl, .ty "int", ty_dp (Dp.int i), isi_int K (.int i), _, rfl, ?_⟩
      refine iteT ⟨_, rfl, _, _, _, _, _, rfl, .ty "bool", ty_dp (Dp.int i), isi_bool K (.int i), _, rfl, ?_⟩
      refine ⟨_, rfl, iteT ⟨_, rfl, _, rfl, rfl, ?_⟩⟩
      rw [decide_eq_true rfl]
      exact q H1 s1
end
end K14
set_option maxRecDepth 100000
set_option maxHeartbeats 4000000
namespace K14
open PySem PySem.Spec PyProof.Rows L2
open Fo
theorem sizeOk {n : Nat} (h : n ≤ 1000) : n ≤ sizeLine := sz_of (by omega)
/-- data made on a heap of data: Hd, H before, Hd1, H1 now; the box at a is no data -/
structure DS (a : Addr) (Hd H Hd1 H1 : Hp) : Prop where
  g1 : Same Hd Hd1
  g2 : Same Hd1 H1
  g3 : ∀ x, Hd x = none → Hd1 x ≠ none → H x = none
  b : But1 a H H1
  e : BoxAt H1 a
  n : Hd1 a = none
section
variable {a p : Addr} {o : HO} {Hd H Hd1 H1 Hd2 H2 : Hp}
theorem DS.start (s : Same Hd H) (e : BoxAt H a) (n : Hd a = none) : DS a Hd H Hd H := ⟨Same.refl _, s, fun x h1 h2 => absurd h1 h2, fun _ _ h _ => h, e, n⟩
theorem DS.frd (d : DS a Hd H Hd1 H1) (h : H1 p = none) : Hd1 p = none := d.g2.free h
theorem DS.fr (d : DS a Hd H Hd1 H1) (h : H1 p = none) : H p = none := by
  cases z : H p with
  | none => rfl
  | some o =>
    rw [d.b _ _ z (d.e.ne h).symm] at h
    cases h
theorem DS.new (d : DS a Hd H Hd1 H1) (h : H1 p = none) : DS a Hd H (upd Hd1 p o) (upd H1 p o) := by
  have hd := d.frd h
  refine ⟨d.g1.trans (same_new hd), fun b u e => ?_, fun x h1 h2 => ?_, d.b.trans (but_of (same_new h)), d.e.same (same_new h), ?_⟩
  · by_cases hb : b = p
    · subst hb
      rw [upd_same] at e ⊢
      exact e
    · rw [upd_ne hb] at e ⊢
      exact d.g2 _ _ e
  · by_cases hx : x = p
    · subst hx
      exact d.fr h
    · rw [upd_ne hx] at h2
      exact d.g3 x h1 h2
  · rw [upd_ne (d.e.ne h)]
    exact d.n
theorem DS.out (d : DS a Hd H Hd1 H1) (s : Same H1 H2) : DS a Hd H Hd1 H2 := ⟨d.g1, d.g2.trans s, d.g3, d.b.trans (but_of s), d.e.same s, d.n⟩
theorem DS.draw (d : DS a Hd H Hd1 H1) (s : But1 a H1 H2) (e : BoxAt H2 a) : DS a Hd H Hd1 H2 := ⟨d.g1, fun b u h => s _ _ (d.g2 _ _ h) (ne_of_none h d.n), d.g3, d.b.trans s, e, d.n⟩
theorem DS.sub (d : DS a Hd H Hd1 H1) (d2 : DS a Hd1 H1 Hd2 H2) : DS a Hd H Hd2 H2 := by
  refine ⟨d.g1.trans d2.g1, d2.g2, fun x h1 h2 => ?_, d.b.trans d2.b, d2.e, d2.n⟩
  cases z : Hd1 x with
  | none => exact d.fr (d2.g3 x z h2)
  | some o => exact d.g3 x h1 (by rw [z]; intro q; cases q)
end
section
variable {P : Program} {w : World} {K : PySem.W.Frag} {mg : Str → Option Value} {base : Heap}
theorem sclawbadword : FnScope ["_law_box_here", "_law_words"] ["_law_box_here"] (defScope (topS 53)) := ⟨rfl, rfl, rfl, by decide +kernel, rfl, by decide +kernel, by decide +kernel⟩
def spBadWord (K : PySem.W.Frag) : Sp := fun vs H Q _ => ∃ a Hd, vs = [.ref a] ∧ DS a Hd H Hd H ∧ ∀ H' Hd' v d, DS a Hd H Hd' H' → Dp K Hd' v d → dWord d = false → fit d 1 = true → Q v H'
def badWords : List PyData := [.str (PySem.Str.ofString ""), .str (PySem.Str.ofString "abcdefghi"), .str (PySem.Str.ofString "A"), .str (PySem.Str.ofString "aB"), .str (PySem.Str.ofString "a1"), .str (PySem.Str.ofString "a b"), .str (PySem.Str.ofString " a"), .str (PySem.Str.ofString "a,"), .str (PySem.Str.ofString "a-"), .int 5, .int 0, .bool true, .none, (.tuple [.str (PySem.Str.ofString "a")]), (.list [.str (PySem.Str.ofString "a")]), (.tuple [])]
theorem badWords_no : ∀ d ∈ badWords, dWord d = false ∧ fit d 1 = true := by decide +kernel
theorem ok_law_bad_word (T : Top P K mg) : FnOk P w K mg base CX0 3 T.d_law_bad_word.f T.d_law_bad_word.fd ["_law_box_here"] (spBadWord K) := by
  refine T.d_law_bad_word.F.ok sclawbadword (fun vs H Q E h => ?_) (fun cdv A outer s H vs Q E hr h => ?_)
  · obtain ⟨a, Hd, rfl, _⟩ := h
    rfl
  · obtain ⟨a, Hd, rfl, ds, q⟩ := h
    refine ⟨_, pss_cons (ps_set (i := 1) sclawbadword.nd rfl (.inl rfl) (pe_lst (pa_cons (pe_str) (pa_cons (pe_str) (pa_cons (pe_str) (pa_cons (pe_str) (pa_cons (pe_str) (pa_cons (pe_str) (pa_cons (pe_str) (pa_cons (pe_str) (pa_cons (pe_str) (pa_cons (pe_int) (pa_cons (pe_int) (pa_cons (pe_bl) (pa_cons (pe_non) (pa_cons (pe_tup (pa_cons (pe_str) pa_nil)) (pa_cons (pe_lst (pa_cons (pe_str) pa_nil)) (pa_cons (pe_tup (pa_nil)) pa_nil))))))))))))))))))
      (pss_one (ps_ret (pe_ix ix_list (pv 1) (pe_call (ok_law_draw T) (hr.mono (by omega)) rfl T.d_law_draw.g T.d_law_draw.F.kp T.d_law_draw.b .nil pass0 (pa_cons (pv 0) (pa_cons (pe_int) pa_nil))) (fun _ _ => rfl)))), ?_⟩
    refine ⟨sizeOk (Nat.le_of_ble_eq_true rfl), fun p1 np1 => ?_⟩
    have ds1 := ds.new np1 (o := (.tup [.str (PySem.Str.ofString "a")]))
    have sm1 : Same Hd (upd Hd p1 (.tup [.str (PySem.Str.ofString "a")])) := same_new (ds.frd np1)
    have e1 : (upd Hd p1 (.tup [.str (PySem.Str.ofString "a")])) p1 = some (.tup [.str (PySem.Str.ofString "a")]) := upd_same
    have sH1 : Same H (upd H p1 (.tup [.str (PySem.Str.ofString "a")])) := same_new np1
    generalize upd H p1 (.tup [.str (PySem.Str.ofString "a")]) = K1 at ds1 sH1 ⊢
    generalize upd Hd p1 (.tup [.str (PySem.Str.ofString "a")]) = Kd1 at ds1 sm1 e1
    have d1 : Dp K Kd1 (.ref p1) (.tuple [.str (PySem.Str.ofString "a")]) := .tup (.inl (.inl e1)) (.cons (.str _) (.nil))
    refine ⟨sizeOk (Nat.le_of_ble_eq_true rfl), fun p2 np2 => ?_⟩
    have ds2 := ds1.new np2 (o := (.lst [.str (PySem.Str.ofString "a")]))
    have sm2 : Same Kd1 (upd Kd1 p2 (.lst [.str (PySem.Str.ofString "a")])) := same_new (ds1.frd np2)
    have e2 : (upd Kd1 p2 (.lst [.str (PySem.Str.ofString "a")])) p2 = some (.lst [.str (PySem.Str.ofString "a")]) := upd_same
    have sH2 : Same K1 (upd K1 p2 (.lst [.str (PySem.Str.ofString "a")])) := same_new np2
    generalize upd K1 p2 (.lst [.str (PySem.Str.ofString "a")]) = K2 at ds2 sH2 ⊢
    generalize upd Kd1 p2 (.lst [.str (PySem.Str.ofString "a")]) = Kd2 at ds2 sm2 e2
    have d1 := dp_same sm2 d1
    have d2 : Dp K Kd2 (.ref p2) (.list [.str (PySem.Str.ofString "a")]) := .lst (.inl (.inl e2)) (.cons (.str _) (.nil))
    refine ⟨sizeOk (Nat.le_of_ble_eq_true rfl), fun p3 np3 => ?_⟩
    have ds3 := ds2.new np3 (o := (.tup []))
    have sm3 : Same Kd2 (upd Kd2 p3 (.tup [])) := same_new (ds2.frd np3)
    have e3 : (upd Kd2 p3 (.tup [])) p3 = some (.tup []) := upd_same
    have sH3 : Same K2 (upd K2 p3 (.tup [])) := same_new np3
    generalize upd K2 p3 (.tup []) = K3 at ds3 sH3 ⊢
    generalize upd Kd2 p3 (.tup []) = Kd3 at ds3 sm3 e3
    have d1 := dp_same sm3 d1
    have d2 := dp_same sm3 d2
    have d3 : Dp K Kd3 (.ref p3) (.tuple []) := .tup (.inl (.inl e3)) (.nil)
    refine ⟨sizeOk (Nat.le_of_ble_eq_true rfl), fun W nW => ?_⟩
    have all : DpAll K Kd3 [.str (PySem.Str.ofString ""), .str (PySem.Str.ofString "abcdefghi"), .str (PySem.Str.ofString "A"), .str (PySem.Str.ofString "aB"), .str (PySem.Str.ofString "a1"), .str (PySem.Str.ofString "a b"), .str (PySem.Str.ofString " a"), .str (PySem.Str.ofString "a,"), .str (PySem.Str.ofString "a-"), .int 5, .int 0, .bl true, .non, .ref p1, .ref p2, .ref p3] badWords := .cons (.str _) (.cons (.str _) (.cons (.str _) (.cons (.str _) (.cons (.str _) (.cons (.str _) (.cons (.str _) (.cons (.str _) (.cons (.str _) (.cons (.int _) (.cons (.int _) (.cons (.bl _) (.cons (.non) (.cons (d1) (.cons (d2) (.cons (d3) (.nil))))))))))))))))
    have sW : Same K3 (upd K3 W (.lst [.str (PySem.Str.ofString ""), .str (PySem.Str.ofString "abcdefghi"), .str (PySem.Str.ofString "A"), .str (PySem.Str.ofString "aB"), .str (PySem.Str.ofString "a1"), .str (PySem.Str.ofString "a b"), .str (PySem.Str.ofString " a"), .str (PySem.Str.ofString "a,"), .str (PySem.Str.ofString "a-"), .int 5, .int 0, .bl true, .non, .ref p1, .ref p2, .ref p3])) := same_new nW
    have eW : (upd K3 W (.lst [.str (PySem.Str.ofString ""), .str (PySem.Str.ofString "abcdefghi"), .str (PySem.Str.ofString "A"), .str (PySem.Str.ofString "aB"), .str (PySem.Str.ofString "a1"), .str (PySem.Str.ofString "a b"), .str (PySem.Str.ofString " a"), .str (PySem.Str.ofString "a,"), .str (PySem.Str.ofString "a-"), .int 5, .int 0, .bl true, .non, .ref p1, .ref p2, .ref p3])) W = some (.lst [.str (PySem.Str.ofString ""), .str (PySem.Str.ofString "abcdefghi"), .str (PySem.Str.ofString "A"), .str (PySem.Str.ofString "aB"), .str (PySem.Str.ofString "a1"), .str (PySem.Str.ofString "a b"), .str (PySem.Str.ofString " a"), .str (PySem.Str.ofString "a,"), .str (PySem.Str.ofString "a-"), .int 5, .int 0, .bl true, .non, .ref p1, .ref p2, .ref p3]) := upd_same
    have ds4 := ds3.out sW
    generalize upd K3 W (.lst [.str (PySem.Str.ofString ""), .str (PySem.Str.ofString "abcdefghi"), .str (PySem.Str.ofString "A"), .str (PySem.Str.ofString "aB"), .str (PySem.Str.ofString "a1"), .str (PySem.Str.ofString "a b"), .str (PySem.Str.ofString " a"), .str (PySem.Str.ofString "a,"), .str (PySem.Str.ofString "a-"), .int 5, .int 0, .bl true, .non, .ref p1, .ref p2, .ref p3]) = K4 at ds4 eW ⊢
    have nWa : W ≠ a := by
      obtain ⟨x, y, z, e⟩ := ds3.e
      exact (ne_of_none e nW).symm
    refine ⟨_, rfl, _, rfl, a, 16, rfl, ds4.e, by decide, by decide, fun z H5 hz b5 e5 => ?_⟩
    obtain ⟨x, hx⟩ : ∃ x, ([.str (PySem.Str.ofString ""), .str (PySem.Str.ofString "abcdefghi"), .str (PySem.Str.ofString "A"), .str (PySem.Str.ofString "aB"), .str (PySem.Str.ofString "a1"), .str (PySem.Str.ofString "a b"), .str (PySem.Str.ofString " a"), .str (PySem.Str.ofString "a,"), .str (PySem.Str.ofString "a-"), .int 5, .int 0, .bl true, .non, .ref p1, .ref p2, .ref p3] : List V)[z]? = some x := ⟨_, List.getElem?_eq_getElem hz⟩
    obtain ⟨d, hd, dx⟩ := dpAll_get all hx
    obtain ⟨k1, k2⟩ := badWords_no d (List.mem_of_getElem? hd)
    exact ⟨W, _, _, x, rfl, rfl, .inl (.inl (b5 _ _ eW nWa)), atI_nat hx, q H5 Kd3 x d (ds4.draw b5 e5) dx k1 k2⟩
end
end K14
set_option maxRecDepth 100000
set_option maxHeartbeats 4000000
namespace K14
open PySem PySem.Spec PyProof.Rows L2
open Fo
mutual
theorem fit_next : ∀ (d : PyData) (n : Nat), fit d n = true → fit d (n + 1) = true
  | .none, _, _ => by simp only [fit]
  | .bool _, _, _ => by simp only [fit]
  | .int _, _, _ => by simp only [fit]
  | .str _, _, h => by simpa only [fit] using h
  | .list xs, 0, h => by simp [fit] at h
  | .list xs, n + 1, h => by
    simp only [fit, Bool.and_eq_true] at h ⊢
    exact ⟨h.1, fitAll_next xs n h.2⟩
  | .tuple xs, 0, h => by simp [fit] at h
  | .tuple xs, n + 1, h => by
    simp only [fit, Bool.and_eq_true] at h ⊢
    exact ⟨h.1, fitAll_next xs n h.2⟩
  | .dict _, n, h => by simp [fit] at h
theorem fitAll_next : ∀ (xs : List PyData) (n : Nat), fitAll xs n = true → fitAll xs (n + 1) = true
  | [], _, _ => by simp only [fitAll]
  | x :: xs, n, h => by
    simp only [fitAll, Bool.and_eq_true] at h ⊢
    exact ⟨fit_next x n h.1, fitAll_next xs n h.2⟩
end
theorem fit_le {d : PyData} {m n : Nat} (h : fit d m = true) (le : m ≤ n) : fit d n = true := by
  obtain ⟨k, rfl⟩ : ∃ k, n = m + k := ⟨n - m, by omega⟩
  induction k with
  | zero => exact h
  | succ k ih => exact fit_next _ _ (ih (by omega))
theorem fitAll_le {d : List PyData} {m n : Nat} (h : fitAll d m = true) (le : m ≤ n) : fitAll d n = true := by
  obtain ⟨k, rfl⟩ : ∃ k, n = m + k := ⟨n - m, by omega⟩
  induction k with
  | zero => exact h
  | succ k ih => exact fitAll_next _ _ (ih (by omega))
theorem noTree {cs : List PyData} (h : ∀ c ∈ cs, dWord c = false) : dTree (.tuple cs) = false := by
  match cs with
  | [] => rfl
  | [x] => simp [dTree, dPair, dTail]
  | [x, y] => rw [dTree_pair, h x List.mem_cons_self, Bool.false_and]
  | x :: y :: z :: r => simp [dTree, dPair, dTail]
theorem DS.sqT {K : PySem.W.Frag} {a x : Addr} {xs : List V} {Hd H Hd1 H1 : Hp} (d : DS a Hd H Hd1 H1) (h : SqT K Hd1 x xs) : SqT K H1 x xs := same_t d.g2 h
section
variable {P : Program} {w : World} {K : PySem.W.Frag} {mg : Str → Option Value} {base : Heap}
theorem sclawbadtree : FnScope ["_law_box_here", "_law_word_here", "_law_children", "_law_kind"] ["_law_box_here", "_law_word_here", "_law_children"] (defScope (topS 54)) := ⟨rfl, rfl, rfl, by decide +kernel, rfl, by decide +kernel, by decide +kernel⟩
def spBadTree (K : PySem.W.Frag) : Sp := fun vs H Q _ => ∃ a Hd wd ch cs m, vs = [.ref a, .str wd, .ref ch] ∧ DS a Hd H Hd H ∧ Dp K Hd (.ref ch) (.tuple cs) ∧ wordOk wd = true ∧ cs.length ≤ 1000 ∧ fitAll cs m = true ∧ (∀ c ∈ cs, dWord c = false) ∧
  ∀ H' Hd' v d, DS a Hd H Hd' H' → Dp K Hd' v d → dTree d = false → fit d (m + 3) = true → Q v H'
theorem tailEnds : ∀ d ∈ ([.none, .str (PySem.Str.ofString ""), .str (PySem.Str.ofString "a"), .int 0, .bool false, .int 7] : List PyData), dForest d = false ∧ fit d 1 = true := by decide +kernel
theorem ok_law_bad_tree (T : Top P K mg) : FnOk P w K mg base CX0 4 T.d_law_bad_tree.f T.d_law_bad_tree.fd ["_law_box_here", "_law_word_here", "_law_children"] (spBadTree K) := by
  refine T.d_law_bad_tree.F.ok sclawbadtree (fun vs H Q E h => ?_) (fun cdv A outer s H vs Q E hr h => ?_)
  · obtain ⟨a, Hd, wd, ch, cs, m, rfl, _⟩ := h
    rfl
  · obtain ⟨a, Hd, wd, ch, cs, m, rfl, ds, dc, ow, hcl, hcf, hno, q⟩ := h
    refine ⟨_, pss_cons (ps_set (i := 3) sclawbadtree.nd rfl (.inl rfl) (pe_call (ok_law_draw T) (hr.mono (by omega)) rfl T.d_law_draw.g T.d_law_draw.F.kp T.d_law_draw.b .nil pass0 (pa_cons (pv 0) (pa_cons (pe_int) pa_nil))))
      (pss_cons (ps_if (pt_cmpR op_lt (pv 3) (pe_int) (nomark _))
      (pss_one (ps_ret (pe_tup (pa_cons (pe_call (ok_law_bad_word T) (hr.mono (by omega)) rfl T.d_law_bad_word.g T.d_law_bad_word.F.kp T.d_law_bad_word.b .nil pass0 (pa_cons (pv 0) pa_nil)) (pa_cons (pv 2) pa_nil)))))
      (pss_nil))
      (pss_cons (ps_if (pt_cmpR op_eq (pv 3) (pe_int) (nomark _))
      (pss_one (ps_ret (pv 1)))
      (pss_nil))
      (pss_cons (ps_if (pt_cmpR op_eq (pv 3) (pe_int) (nomark _))
      (pss_one (ps_ret (pe_tup (pa_cons (pv 1) pa_nil))))
      (pss_nil))
      (pss_cons (ps_if (pt_cmpR op_eq (pv 3) (pe_int) (nomark _))
      (pss_one (ps_ret (pe_tup (pa_cons (pv 1) (pa_cons (pv 2) (pa_cons (pe_tup (pa_nil)) pa_nil))))))
      (pss_nil))
      (pss_cons (ps_if (pt_cmpR op_eq (pv 3) (pe_int) (nomark _))
      (pss_one (ps_ret (pe_lst (pa_cons (pv 1) (pa_cons (pv 2) pa_nil)))))
      (pss_nil))
      (pss_cons (ps_if (pt_cmpR op_eq (pv 3) (pe_int) (nomark _))
      (pss_one (ps_ret (pe_tup (pa_cons (pv 1) (pa_cons (pe_callTy call_list_of rfl T.z_list (by decide +kernel) (pa_cons (pv 2) pa_nil)) pa_nil)))))
      (pss_nil))
      (pss_cons (ps_if (pt_cmpR op_eq (pv 3) (pe_int) (nomark _))
      (pss_one (ps_ret (pe_tup (pa_cons (pv 2) (pa_cons (pv 1) pa_nil)))))
      (pss_nil))
      (pss_cons (ps_if (pt_cmpR op_eq (pv 3) (pe_int) (nomark _))
      (pss_one (ps_ret (pe_tup (pa_cons (pv 1) (pa_cons (pe_tup (pa_cons (pv 2) pa_nil)) pa_nil)))))
      (pss_nil))
      (pss_one (ps_ret (pe_tup (pa_cons (pv 1) (pa_cons (pe_ix ix_list (pe_lst (pa_cons (pe_non) (pa_cons (pe_str) (pa_cons (pe_str) (pa_cons (pe_int) (pa_cons (pe_bl) (pa_cons (pe_int) pa_nil))))))) (pe_call (ok_law_draw T) (hr.mono (by omega)) rfl T.d_law_draw.g T.d_law_draw.F.kp T.d_law_draw.b .nil pass0 (pa_cons (pv 0) (pa_cons (pe_int) pa_nil))) (fun _ _ => rfl)) pa_nil))))))))))))), ?_⟩
    obtain ⟨ch', xs, e, hS, hA⟩ := dp_tup dc
    cases e
    have fwl : wd.length ≤ 1000 := by have := (wordOk_iff ow).2.1; omega
    have fw : decide (wd.length ≤ 1000) = true := decide_eq_true (by have := (wordOk_iff ow).2.1; omega)
    have f2 : fitAll cs (m + 1) = true := fitAll_le hcf (by omega)
    have fe : (decide (cs.length ≤ 1000) && fitAll cs (m + 1)) = true := by rw [decide_eq_true hcl, f2]; rfl
    have f0 : decide (cs.length ≤ 1000) = true := decide_eq_true hcl
    refine ⟨_, rfl, a, 12, rfl, ds.e, by decide, by decide, fun z H1 hz b1 e1 => ?_⟩
    have dsa := ds.draw b1 e1
    have done : True := trivial
    · refine ⟨_, rfl, _, _, rfl, rfl, _, rfl, ?_⟩
      by_cases h3 : z < 3
      · rw [decide_eq_true (show (z : Int) < 3 by omega)]
        refine iteT ⟨_, rfl, a, Hd, rfl, DS.start dsa.g2 dsa.e dsa.n, fun H2 Hd2 bw dd ds2 dbw k1 k2 => ⟨_, rfl, ?_⟩⟩
        have ds12 := dsa.sub ds2
        refine ⟨sizeOk (Nat.le_of_ble_eq_true rfl), fun p1 np1 => ?_⟩
        have ds1 := ds12.new np1 (o := (.tup [bw, .ref ch]))
        have sm1 : Same Hd2 (upd Hd2 p1 (.tup [bw, .ref ch])) := same_new (ds12.frd np1)
        have e1 : (upd Hd2 p1 (.tup [bw, .ref ch])) p1 = some (.tup [bw, .ref ch]) := upd_same
        have sH1 : Same H2 (upd H2 p1 (.tup [bw, .ref ch])) := same_new np1
        generalize upd H2 p1 (.tup [bw, .ref ch]) = K1 at ds1 sH1 ⊢
        generalize upd Hd2 p1 (.tup [bw, .ref ch]) = Kd1 at ds1 sm1 e1
        have d1 : Dp K Kd1 (.ref p1) (.tuple [dd, .tuple cs]) := .tup (.inl (.inl e1)) (.cons (dp_same sm1 dbw) (.cons (dp_same (ds2.g1.trans sm1) dc) (.nil)))
        exact q K1 Kd1 (.ref p1) _ ds1 d1 (by rw [dTree_pair, k1, Bool.false_and]) (by have k3 := fit_le (n := m + 2) k2 (by omega); simp [fit, fitAll, f2, hcl, k3])
      rw [decide_eq_false (show ¬ (z : Int) < 3 by omega)]
      refine iteF ?_
      refine ⟨_, rfl, rfl, _, rfl, ?_⟩
      rw [show decide (V.int (z : Int) = V.int 3) = decide (z = 3) from dec_nat z 3]
      by_cases h3 : z = 3
      · rw [decide_eq_true h3]
        refine iteT ?_
        exact ⟨_, rfl, q H1 Hd (.str wd) _ dsa (.str _) rfl (by simp only [fit]; exact fw)⟩
      rw [decide_eq_false h3]
      refine iteF ?_
      refine ⟨_, rfl, rfl, _, rfl, ?_⟩
      rw [show decide (V.int (z : Int) = V.int 4) = decide (z = 4) from dec_nat z 4]
      by_cases h4 : z = 4
      · rw [decide_eq_true h4]
        refine iteT ?_
        refine ⟨_, rfl, ?_⟩
        refine ⟨sizeOk (Nat.le_of_ble_eq_true rfl), fun p1 np1 => ?_⟩
        have ds1 := dsa.new np1 (o := (.tup [.str wd]))
        have sm1 : Same Hd (upd Hd p1 (.tup [.str wd])) := same_new (dsa.frd np1)
        have e1 : (upd Hd p1 (.tup [.str wd])) p1 = some (.tup [.str wd]) := upd_same
        have sH1 : Same H1 (upd H1 p1 (.tup [.str wd])) := same_new np1
        generalize upd H1 p1 (.tup [.str wd]) = K1 at ds1 sH1 ⊢
        generalize upd Hd p1 (.tup [.str wd]) = Kd1 at ds1 sm1 e1
        have dc := dp_same sm1 dc
        have d1 : Dp K Kd1 (.ref p1) (.tuple [.str wd]) := .tup (.inl (.inl e1)) (.cons (.str _) (.nil))
        exact q K1 Kd1 (.ref p1) _ ds1 d1 (by simp [dTree, dPair, dTail]) (by simp [fit, fitAll, f2, hcl, hcf, fwl])
      rw [decide_eq_false h4]
      refine iteF ?_
      refine ⟨_, rfl, rfl, _, rfl, ?_⟩
      rw [show decide (V.int (z : Int) = V.int 5) = decide (z = 5) from dec_nat z 5]
      by_cases h5 : z = 5
      · rw [decide_eq_true h5]
        refine iteT ?_
        refine ⟨_, rfl, _, rfl, ?_⟩
        refine ⟨sizeOk (Nat.le_of_ble_eq_true rfl), fun p1 np1 => ?_⟩
        have ds1 := dsa.new np1 (o := (.tup []))
        have sm1 : Same Hd (upd Hd p1 (.tup [])) := same_new (dsa.frd np1)
        have e1 : (upd Hd p1 (.tup [])) p1 = some (.tup []) := upd_same
        have sH1 : Same H1 (upd H1 p1 (.tup [])) := same_new np1
        generalize upd H1 p1 (.tup []) = K1 at ds1 sH1 ⊢
        generalize upd Hd p1 (.tup []) = Kd1 at ds1 sm1 e1
        have dc := dp_same sm1 dc
        have d1 : Dp K Kd1 (.ref p1) (.tuple []) := .tup (.inl (.inl e1)) (.nil)
        refine ⟨sizeOk (Nat.le_of_ble_eq_true rfl), fun p2 np2 => ?_⟩
        have ds2 := ds1.new np2 (o := (.tup [.str wd, .ref ch, .ref p1]))
        have sm2 : Same Kd1 (upd Kd1 p2 (.tup [.str wd, .ref ch, .ref p1])) := same_new (ds1.frd np2)
        have e2 : (upd Kd1 p2 (.tup [.str wd, .ref ch, .ref p1])) p2 = some (.tup [.str wd, .ref ch, .ref p1]) := upd_same
        have sH2 : Same K1 (upd K1 p2 (.tup [.str wd, .ref ch, .ref p1])) := same_new np2
        generalize upd K1 p2 (.tup [.str wd, .ref ch, .ref p1]) = K2 at ds2 sH2 ⊢
        generalize upd Kd1 p2 (.tup [.str wd, .ref ch, .ref p1]) = Kd2 at ds2 sm2 e2
        have dc := dp_same sm2 dc
        have d1 := dp_same sm2 d1
        have d2 : Dp K Kd2 (.ref p2) (.tuple [.str wd, .tuple cs, (.tuple [])]) := .tup (.inl (.inl e2)) (.cons (.str _) (.cons (dc) (.cons (d1) (.nil))))
        exact q K2 Kd2 (.ref p2) _ ds2 d2 (by simp [dTree, dPair, dTail]) (by simp [fit, fitAll, f2, hcl, hcf, fwl])
      rw [decide_eq_false h5]
      refine iteF ?_
      refine ⟨_, rfl, rfl, _, rfl, ?_⟩
      rw [show decide (V.int (z : Int) = V.int 6) = decide (z = 6) from dec_nat z 6]
      by_cases h6 : z = 6
      · rw [decide_eq_true h6]
        refine iteT ?_
        refine ⟨_, rfl, _, rfl, ?_⟩
        refine ⟨sizeOk (Nat.le_of_ble_eq_true rfl), fun p1 np1 => ?_⟩
        have ds1 := dsa.new np1 (o := (.lst [.str wd, .ref ch]))
        have sm1 : Same Hd (upd Hd p1 (.lst [.str wd, .ref ch])) := same_new (dsa.frd np1)
        have e1 : (upd Hd p1 (.lst [.str wd, .ref ch])) p1 = some (.lst [.str wd, .ref ch]) := upd_same
        have sH1 : Same H1 (upd H1 p1 (.lst [.str wd, .ref ch])) := same_new np1
        generalize upd H1 p1 (.lst [.str wd, .ref ch]) = K1 at ds1 sH1 ⊢
        generalize upd Hd p1 (.lst [.str wd, .ref ch]) = Kd1 at ds1 sm1 e1
        have dc := dp_same sm1 dc
        have d1 : Dp K Kd1 (.ref p1) (.list [.str wd, .tuple cs]) := .lst (.inl (.inl e1)) (.cons (.str _) (.cons (dc) (.nil)))
        exact q K1 Kd1 (.ref p1) _ ds1 d1 (by simp [dTree]) (by simp [fit, fitAll, f2, hcl, hcf, fwl])
      rw [decide_eq_false h6]
      refine iteF ?_
      refine ⟨_, rfl, rfl, _, rfl, ?_⟩
      rw [show decide (V.int (z : Int) = V.int 7) = decide (z = 7) from dec_nat z 7]
      by_cases h7 : z = 7
      · rw [decide_eq_true h7]
        refine iteT ?_
        refine ⟨_, rfl, _, rfl, ch, xs, rfl, .inr (dsa.sqT hS), fun pl npl => ?_⟩
        have dsl := dsa.new npl (o := .lst xs)
        have sml : Same Hd (upd Hd pl (.lst xs)) := same_new (dsa.frd npl)
        have el : (upd Hd pl (.lst xs)) pl = some (.lst xs) := upd_same
        generalize upd H1 pl (.lst xs) = Kl at dsl ⊢
        generalize upd Hd pl (.lst xs) = Kdl at dsl sml el
        have dl : Dp K Kdl (.ref pl) (.list cs) := .lst (.inl (.inl el)) (dps_same sml hA)
        refine ⟨sizeOk (Nat.le_of_ble_eq_true rfl), fun p1 np1 => ?_⟩
        have ds1 := dsl.new np1 (o := (.tup [.str wd, .ref pl]))
        have sm1 : Same Kdl (upd Kdl p1 (.tup [.str wd, .ref pl])) := same_new (dsl.frd np1)
        have e1 : (upd Kdl p1 (.tup [.str wd, .ref pl])) p1 = some (.tup [.str wd, .ref pl]) := upd_same
        have sH1 : Same Kl (upd Kl p1 (.tup [.str wd, .ref pl])) := same_new np1
        generalize upd Kl p1 (.tup [.str wd, .ref pl]) = K1 at ds1 sH1 ⊢
        generalize upd Kdl p1 (.tup [.str wd, .ref pl]) = Kd1 at ds1 sm1 e1
        have d1 : Dp K Kd1 (.ref p1) (.tuple [.str wd, .list cs]) := .tup (.inl (.inl e1)) (.cons (.str _) (.cons (dp_same sm1 dl) (.nil)))
        exact q K1 Kd1 (.ref p1) _ ds1 d1 (by rw [dTree_pair]; show (dWord (.str wd) && false) = false; rw [Bool.and_false]) (by simp [fit, fitAll, f2, hcl, hcf, fwl])
      rw [decide_eq_false h7]
      refine iteF ?_
      refine ⟨_, rfl, rfl, _, rfl, ?_⟩
      rw [show decide (V.int (z : Int) = V.int 8) = decide (z = 8) from dec_nat z 8]
      by_cases h8 : z = 8
      · rw [decide_eq_true h8]
        refine iteT ?_
        refine ⟨_, rfl, _, rfl, ?_⟩
        refine ⟨sizeOk (Nat.le_of_ble_eq_true rfl), fun p1 np1 => ?_⟩
        have ds1 := dsa.new np1 (o := (.tup [.ref ch, .str wd]))
        have sm1 : Same Hd (upd Hd p1 (.tup [.ref ch, .str wd])) := same_new (dsa.frd np1)
        have e1 : (upd Hd p1 (.tup [.ref ch, .str wd])) p1 = some (.tup [.ref ch, .str wd]) := upd_same
        have sH1 : Same H1 (upd H1 p1 (.tup [.ref ch, .str wd])) := same_new np1
        generalize upd H1 p1 (.tup [.ref ch, .str wd]) = K1 at ds1 sH1 ⊢
        generalize upd Hd p1 (.tup [.ref ch, .str wd]) = Kd1 at ds1 sm1 e1
        have dc := dp_same sm1 dc
        have d1 : Dp K Kd1 (.ref p1) (.tuple [.tuple cs, .str wd]) := .tup (.inl (.inl e1)) (.cons (dc) (.cons (.str _) (.nil)))
        exact q K1 Kd1 (.ref p1) _ ds1 d1 (by rw [dTree_pair]; rfl) (by simp [fit, fitAll, f2, hcl, hcf, fwl])
      rw [decide_eq_false h8]
      refine iteF ?_
      refine ⟨_, rfl, rfl, _, rfl, ?_⟩
      rw [show decide (V.int (z : Int) = V.int 9) = decide (z = 9) from dec_nat z 9]
      by_cases h9 : z = 9
      · rw [decide_eq_true h9]
        refine iteT ?_
        refine ⟨_, rfl, _, rfl, ?_⟩
        refine ⟨sizeOk (Nat.le_of_ble_eq_true rfl), fun p1 np1 => ?_⟩
        have ds1 := dsa.new np1 (o := (.tup [.ref ch]))
        have sm1 : Same Hd (upd Hd p1 (.tup [.ref ch])) := same_new (dsa.frd np1)
        have e1 : (upd Hd p1 (.tup [.ref ch])) p1 = some (.tup [.ref ch]) := upd_same
        have sH1 : Same H1 (upd H1 p1 (.tup [.ref ch])) := same_new np1
        generalize upd H1 p1 (.tup [.ref ch]) = K1 at ds1 sH1 ⊢
        generalize upd Hd p1 (.tup [.ref ch]) = Kd1 at ds1 sm1 e1
        have dc := dp_same sm1 dc
        have d1 : Dp K Kd1 (.ref p1) (.tuple [.tuple cs]) := .tup (.inl (.inl e1)) (.cons (dc) (.nil))
        refine ⟨sizeOk (Nat.le_of_ble_eq_true rfl), fun p2 np2 => ?_⟩
        have ds2 := ds1.new np2 (o := (.tup [.str wd, .ref p1]))
        have sm2 : Same Kd1 (upd Kd1 p2 (.tup [.str wd, .ref p1])) := same_new (ds1.frd np2)
        have e2 : (upd Kd1 p2 (.tup [.str wd, .ref p1])) p2 = some (.tup [.str wd, .ref p1]) := upd_same
        have sH2 : Same K1 (upd K1 p2 (.tup [.str wd, .ref p1])) := same_new np2
        generalize upd K1 p2 (.tup [.str wd, .ref p1]) = K2 at ds2 sH2 ⊢
        generalize upd Kd1 p2 (.tup [.str wd, .ref p1]) = Kd2 at ds2 sm2 e2
        have d2 : Dp K Kd2 (.ref p2) (.tuple [.str wd, (.tuple [.tuple cs])]) := .tup (.inl (.inl e2)) (.cons (.str _) (.cons (dp_same sm2 d1) (.nil)))
        exact q K2 Kd2 (.ref p2) _ ds2 d2 (by rw [dTree_pair, dForest_tup, dTrees_cons, noTree hno, Bool.false_and, Bool.and_false]) (by simp [fit, fitAll, f2, hcl, hcf, fwl])
      rw [decide_eq_false h9]
      refine iteF ?_
      refine ⟨_, rfl, sizeOk (Nat.le_of_ble_eq_true rfl), fun W nW => ?_⟩
      have all : DpAll K Hd [.non, .str (PySem.Str.ofString ""), .str (PySem.Str.ofString "a"), .int 0, .bl false, .int 7] [.none, .str (PySem.Str.ofString ""), .str (PySem.Str.ofString "a"), .int 0, .bool false, .int 7] := .cons (.non) (.cons (.str _) (.cons (.str _) (.cons (.int _) (.cons (.bl _) (.cons (.int _) (.nil))))))
      have sW : Same H1 (upd H1 W (.lst [.non, .str (PySem.Str.ofString ""), .str (PySem.Str.ofString "a"), .int 0, .bl false, .int 7])) := same_new nW
      have eW : (upd H1 W (.lst [.non, .str (PySem.Str.ofString ""), .str (PySem.Str.ofString "a"), .int 0, .bl false, .int 7])) W = some (.lst [.non, .str (PySem.Str.ofString ""), .str (PySem.Str.ofString "a"), .int 0, .bl false, .int 7]) := upd_same
      have dsw := dsa.out sW
      have nWa : W ≠ a := (dsa.e.ne nW).symm
      generalize upd H1 W (.lst [.non, .str (PySem.Str.ofString ""), .str (PySem.Str.ofString "a"), .int 0, .bl false, .int 7]) = K4 at dsw eW ⊢
      refine ⟨_, rfl, a, 6, rfl, dsw.e, by decide, by decide, fun y H5 hy b5 e5 => ?_⟩
      obtain ⟨x, hx⟩ : ∃ x, ([.non, .str (PySem.Str.ofString ""), .str (PySem.Str.ofString "a"), .int 0, .bl false, .int 7] : List V)[y]? = some x := ⟨_, List.getElem?_eq_getElem hy⟩
      obtain ⟨dd, hd, dx⟩ := dpAll_get all hx
      obtain ⟨k1, k2⟩ := tailEnds dd (List.mem_of_getElem? hd)
      have ds5 := dsw.draw b5 e5
      refine ⟨W, _, _, x, rfl, rfl, .inl (.inl (b5 _ _ eW nWa)), atI_nat hx, ?_⟩
      refine ⟨sizeOk (Nat.le_of_ble_eq_true rfl), fun p1 np1 => ?_⟩
      have ds1 := ds5.new np1 (o := (.tup [.str wd, x]))
      have sm1 : Same Hd (upd Hd p1 (.tup [.str wd, x])) := same_new (ds5.frd np1)
      have e1 : (upd Hd p1 (.tup [.str wd, x])) p1 = some (.tup [.str wd, x]) := upd_same
      have sH1 : Same H5 (upd H5 p1 (.tup [.str wd, x])) := same_new np1
      generalize upd H5 p1 (.tup [.str wd, x]) = K1 at ds1 sH1 ⊢
      generalize upd Hd p1 (.tup [.str wd, x]) = Kd1 at ds1 sm1 e1
      have d1 : Dp K Kd1 (.ref p1) (.tuple [.str wd, dd]) := .tup (.inl (.inl e1)) (.cons (.str _) (.cons (dp_same sm1 dx) (.nil)))
      exact q K1 Kd1 (.ref p1) _ ds1 d1 (by rw [dTree_pair, k1, Bool.and_false]) (by have k3 := fit_le (n := m + 2) k2 (by omega); simp [fit, fitAll, fwl, k3])
end
end K14
set_option maxRecDepth 100000
set_option maxHeartbeats 4000000
namespace K14
open PySem PySem.Spec PyProof.Rows L2
open Fo
theorem RowsD.ds {K : PySem.W.Frag} {Hd H Hd' H' : Hp} {R a : Addr} {rs : List Addr} {Rw : Nat → List PyData} (h : RowsD K Hd H R rs Rw) (d : DS a Hd H Hd' H') (n1 : R ≠ a) (n2 : ¬ a ∈ rs) : RowsD K Hd' H' R rs Rw := by
  have no : ∀ {x : Addr} {o : HO}, H x = some o → Hd x = none → Hd' x = none := fun {x o} e n => by
    cases z : Hd' x with
    | none => rfl
    | some u =>
      have := d.g3 x n (by rw [z]; intro q; cases q)
      rw [this] at e
      cases e
  refine ⟨d.g2, d.b _ _ h.h n1, no h.h h.hR, h.nd, h.nR, fun r hr => ?_, fun i r e => ?_⟩
  · obtain ⟨i, hi⟩ := List.getElem?_of_mem hr
    obtain ⟨us, e1, _⟩ := h.at_ i r hi
    exact no e1 (h.hr r hr)
  · obtain ⟨us, e1, e2⟩ := h.at_ i r e
    exact ⟨us, d.b _ _ e1 (fun z => n2 (z ▸ List.mem_of_getElem? e)), dps_same d.g1 e2⟩
def wholesD : List PyData := [.none, .int 0, .int 1, .bool true, .bool false, .str (PySem.Str.ofString ""), .str (PySem.Str.ofString "a"), (.list []), (.list [(.tuple [.str (PySem.Str.ofString "a"), (.tuple [])])]), (.tuple [.str (PySem.Str.ofString "a"), (.tuple [])]), (.tuple [.str (PySem.Str.ofString "a")]), (.tuple [(.tuple [.str (PySem.Str.ofString "a"), (.tuple [])]), .none]), (.tuple [(.tuple [])]), .int (-1)]
theorem wholesD_no : ∀ d ∈ wholesD, dForest d = false ∧ fit d 3 = true := by decide +kernel
theorem dTrees_bad {d : PyData} {l : List PyData} (h : dTree d = false) : dTrees (d :: l) = false := by rw [dTrees_cons, h, Bool.false_and]
theorem dTrees_bad2 {d : PyData} {l : List PyData} (h : dTrees l = false) : dTrees (d :: l) = false := by rw [dTrees_cons, h, Bool.and_false]
theorem rowIx_lt {n k : Nat} {p : Int} (h : p < k) : rowIx n p < k ∨ rowIx n p = n := by
  unfold rowIx
  by_cases q : p < 0
  · rw [if_pos q]
    exact .inr rfl
  · rw [if_neg q]
    exact .inl (by omega)
/-- after some turns, k of them left: where the bad tree is -/
structure BadIn (n sp k t : Nat) (Rw : Nat → List PyData) : Prop where
  fits : ∀ j, fitAll (Rw j) (3 * t) = true
  len : ∀ j, (Rw j).length ≤ t
  no : sp < k → ∀ j, ∀ c ∈ Rw j, dWord c = false
  bad : k ≤ sp → ∃ j, (j < k ∨ j = n) ∧ dTrees (Rw j) = false
theorem BadIn.next {n sp k t : Nat} {Rw : Nat → List PyData} {p : Int} {d : PyData} (h : BadIn n sp (k + 1) t Rw) (hp : p < k) (fd : fit d (3 * t + 3) = true) (hk : k < n)
    (h1 : k ≠ sp → dWord d = false ∧ (dTrees (Rw k) = false → dTree d = false)) (h2 : k = sp → dTree d = false) : BadIn n sp k (t + 1) (fun i => if i = rowIx n p then d :: Rw (rowIx n p) else Rw i) := by
  have hj := rowIx_lt (n := n) hp
  refine ⟨fun j => ?_, fun j => ?_, fun hs j c hc => ?_, fun hs => ?_⟩
  · show fitAll (if j = rowIx n p then _ else _) _ = true
    by_cases q : j = rowIx n p
    · rw [if_pos q]
      simp only [fitAll, Bool.and_eq_true]
      exact ⟨fit_le fd (by omega), fitAll_le (h.fits _) (by omega)⟩
    · rw [if_neg q]
      exact fitAll_le (h.fits j) (by omega)
  · show (if j = rowIx n p then d :: Rw (rowIx n p) else Rw j).length ≤ t + 1
    by_cases q : j = rowIx n p
    · rw [if_pos q, List.length_cons]
      have := h.len (rowIx n p)
      omega
    · rw [if_neg q]
      have := h.len j
      omega
  · have hc : c ∈ if j = rowIx n p then d :: Rw (rowIx n p) else Rw j := hc
    by_cases q : j = rowIx n p
    · rw [if_pos q] at hc
      rcases List.mem_cons.mp hc with hc | hc
      · rw [hc]
        exact (h1 (by omega)).1
      · exact h.no (by omega) _ c hc
    · rw [if_neg q] at hc
      exact h.no (by omega) _ c hc
  · by_cases q : k = sp
    · refine ⟨rowIx n p, hj, ?_⟩
      show dTrees (if rowIx n p = rowIx n p then _ else _) = false
      rw [if_pos rfl]
      exact dTrees_bad (h2 q)
    · obtain ⟨j, hj2, hb⟩ := h.bad (by omega)
      by_cases qk : j = k
      · subst qk
        refine ⟨rowIx n p, hj, ?_⟩
        show dTrees (if rowIx n p = rowIx n p then _ else _) = false
        rw [if_pos rfl]
        exact dTrees_bad ((h1 q).2 hb)
      · refine ⟨j, by omega, ?_⟩
        show dTrees (if j = rowIx n p then _ else _) = false
        by_cases qj : j = rowIx n p
        · rw [if_pos qj, ← qj]
          exact dTrees_bad2 hb
        · rw [if_neg qj]
          exact hb
section
variable {P : Program} {w : World} {K : PySem.W.Frag} {mg : Str → Option Value} {base : Heap}
theorem sclawbad : FnScope ["_law_box_here", "_law_words", "_law_parents_here", "_law_many", "_law_wholes", "_law_spoilt", "_law_k", "_law_rows", "_law_row", "_law_tree"] ["_law_box_here", "_law_words", "_law_parents_here"] (defScope (topS 55)) := ⟨rfl, rfl, rfl, by decide +kernel, rfl, by decide +kernel, by decide +kernel⟩
def spBad (K : PySem.W.Frag) : Sp := fun vs H Q _ => ∃ a lw lp Hd F, vs = [.ref a, .ref lw, .ref lp] ∧ DS a Hd H Hd H ∧ H lw = some (.lst (ssV (prw F))) ∧ H lp = some (.lst (isV (prw (parF (-1) 0 F)))) ∧ lw ≠ a ∧ lp ≠ a ∧ (∀ s ∈ prw F, wordOk s = true) ∧ F.size ≤ 12 ∧
  ∀ H' Hd' v d, DS a Hd H Hd' H' → Dp K Hd' v d → dForest d = false → fit d 39 = true → Q v H'
theorem ok_law_bad (T : Top P K mg) : FnOk P w K mg base CX0 5 T.d_law_bad.f T.d_law_bad.fd ["_law_box_here", "_law_words", "_law_parents_here"] (spBad K) := by
  refine T.d_law_bad.F.ok sclawbad (fun vs H Q E h => ?_) (fun cdv A outer s H vs Q E hr h => ?_)
  · obtain ⟨a, lw, lp, Hd, F, rfl, _⟩ := h
    rfl
  · obtain ⟨a, lw, lp, Hd, F, rfl, dsa, hW, hP, nwa, npa, hok, hF, q⟩ := h
    refine ⟨_, pss_cons (ps_set (i := 3) sclawbad.nd rfl (.inl rfl) (pe_callB call_len_seq rfl T.z_len PySem.boot_len (pa_cons (pv 1) pa_nil)))
      (pss_cons (ps_if (PW.pt (pw_or (pt_cmpR op_eq (pv 3) (pe_int) (nomark _)) (pw_or1 (pt_cmpR op_eq (pe_call (ok_law_draw T) (hr.mono (by omega)) rfl T.d_law_draw.g T.d_law_draw.F.kp T.d_law_draw.b .nil pass0 (pa_cons (pv 0) (pa_cons (pe_int) pa_nil))) (pe_int) (nomark _)))))
      (pss_cons (ps_set (i := 4) sclawbad.nd rfl (.inl rfl) (pe_lst (pa_cons (pe_non) (pa_cons (pe_int) (pa_cons (pe_int) (pa_cons (pe_bl) (pa_cons (pe_bl) (pa_cons (pe_str) (pa_cons (pe_str) (pa_cons (pe_lst (pa_nil)) (pa_cons (pe_lst (pa_cons (pe_tup (pa_cons (pe_str) (pa_cons (pe_tup (pa_nil)) pa_nil))) pa_nil)) (pa_cons (pe_tup (pa_cons (pe_str) (pa_cons (pe_tup (pa_nil)) pa_nil))) (pa_cons (pe_tup (pa_cons (pe_str) pa_nil)) (pa_cons (pe_tup (pa_cons (pe_tup (pa_cons (pe_str) (pa_cons (pe_tup (pa_nil)) pa_nil))) (pa_cons (pe_non) pa_nil))) (pa_cons (pe_tup (pa_cons (pe_tup (pa_nil)) pa_nil)) (pa_cons (pe_un un_neg (pe_int)) pa_nil))))))))))))))))
      (pss_one (ps_ret (pe_ix ix_list (pv 4) (pe_call (ok_law_draw T) (hr.mono (by omega)) rfl T.d_law_draw.g T.d_law_draw.F.kp T.d_law_draw.b .nil pass0 (pa_cons (pv 0) (pa_cons (pe_int) pa_nil))) (fun _ _ => rfl)))))
      (pss_nil))
      (pss_cons (ps_set (i := 5) sclawbad.nd rfl (.inl rfl) (pe_call (ok_law_draw T) (hr.mono (by omega)) rfl T.d_law_draw.g T.d_law_draw.F.kp T.d_law_draw.b .nil pass0 (pa_cons (pv 0) (pa_cons (pv 3) pa_nil))))
      (pss_cons (ps_setLc (i := 7) (own := [("_law_k", 6)]) (g := gName 6) (tt := tYes) rfl sclawbad.nd rfl rfl (sw_true rfl rfl rfl (by decide +kernel)) (pi_range1 rfl T.z_range (pa_cons (pe_op op_add (pv 3) (pe_int)) pa_nil)) (blkOk_by (own := [("_law_k", 6)]) (N := ["_law_box_here", "_law_words", "_law_parents_here", "_law_many", "_law_wholes", "_law_spoilt", "_law_k", "_law_rows", "_law_row", "_law_tree"]) (sc := defScope (topS 55)) (by decide +kernel)) (fun _ _ _ _ _ => pg_name (i := 6) sclawbad.nd rfl (.inl rfl)) (fun _ _ _ _ _ => pts_nil) (fun _ _ _ _ _ => pe_lst (pa_nil)))
      (pss_cons (ps_for PassesOwn.never rfl (pi_revR rfl T.z_reversed (prg_1 rfl T.z_range (pv 3))) (pg_name (i := 6) sclawbad.nd rfl (.inl rfl))
      (pss_cons (ps_set (i := 8) sclawbad.nd rfl (.inl rfl) (pe_ix ix_list (pv 7) (pe_ix ix_list (pv 2) (pv 6) (fun _ _ => rfl)) (fun _ _ => rfl)))
      (pss_cons (ps_set (i := 9) sclawbad.nd rfl (.inl rfl) (pe_tup (pa_cons (pe_ix ix_list (pv 1) (pv 6) (fun _ _ => rfl)) (pa_cons (pe_callTy call_tuple_of rfl T.z_tuple (by decide +kernel) (pa_cons (pe_ix ix_list (pv 7) (pv 6) (fun _ _ => rfl)) pa_nil)) pa_nil))))
      (Evl.pss_cut (ps_if (pt_cmpR op_eq (pv 6) (pv 5) (nomark _))
      (pss_one (ps_set (i := 9) sclawbad.nd rfl (.inl rfl) (pe_call (ok_law_bad_tree T) (hr.mono (by omega)) rfl T.d_law_bad_tree.g T.d_law_bad_tree.F.kp T.d_law_bad_tree.b .nil pass0 (pa_cons (pv 0) (pa_cons (pe_ix ix_list (pv 1) (pv 6) (fun _ _ => rfl)) (pa_cons (pe_callTy call_tuple_of rfl T.z_tuple (by decide +kernel) (pa_cons (pe_ix ix_list (pv 7) (pv 6) (fun _ _ => rfl)) pa_nil)) pa_nil))))))
      (pss_nil))
      (pss_one (ps_expr (pe_bm PySem.F.plainAttrs_list PySem.F.slot_list_insert PySem.F.type_list_insert mt_insert (pv 8) (pa_cons (pe_int) (pa_cons (pv 9) pa_nil)))))))))
      (pss_one (ps_ret (pe_callTy call_tuple_of rfl T.z_tuple (by decide +kernel) (pa_cons (pe_ix ix_list (pv 7) (pv 3) (fun _ _ => rfl)) pa_nil)))))))), ?_⟩
    have hn : (ssV (prw F)).length = F.size := by rw [ssV_len, prw_len]
    have hpl : (prw (parF (-1) 0 F)).length = F.size := by rw [prw_len, parF_size]
    have hpo := parOk F
    have hge : ∀ k, k < F.size → -1 ≤ gI (prw (parF (-1) 0 F)) k := fun k hk => par_ge F (-1) 0 (by omega) _ (gI_mem (by omega))
    generalize prw (parF (-1) 0 F) = ps at hP hpl hpo hge
    refine ⟨_, rfl, lw, _, rfl, .inl (.inl (.inl hW)), ?_⟩
    rw [hn]
    refine ⟨_, rfl, rfl, _, rfl, ?_⟩
    rw [dec_nat0]
    by_cases hz : F.size = 0
    · rw [decide_eq_true hz]
      refine iteT ?_
      refine ⟨sizeOk (Nat.le_of_ble_eq_true rfl), fun p1 np1 => ?_⟩
      have ds1 := dsa.new np1 (o := (.lst []))
      have sm1 : Same Hd (upd Hd p1 (.lst [])) := same_new (dsa.frd np1)
      have e1 : (upd Hd p1 (.lst [])) p1 = some (.lst []) := upd_same
      have sH1 : Same H (upd H p1 (.lst [])) := same_new np1
      generalize upd H p1 (.lst []) = K1 at ds1 sH1 ⊢
      generalize upd Hd p1 (.lst []) = Kd1 at ds1 sm1 e1
      have d1 : Dp K Kd1 (.ref p1) (.list []) := .lst (.inl (.inl e1)) (.nil)
      refine ⟨sizeOk (Nat.le_of_ble_eq_true rfl), fun p2 np2 => ?_⟩
      have ds2 := ds1.new np2 (o := (.tup []))
      have sm2 : Same Kd1 (upd Kd1 p2 (.tup [])) := same_new (ds1.frd np2)
      have e2 : (upd Kd1 p2 (.tup [])) p2 = some (.tup []) := upd_same
      have sH2 : Same K1 (upd K1 p2 (.tup [])) := same_new np2
      generalize upd K1 p2 (.tup []) = K2 at ds2 sH2 ⊢
      generalize upd Kd1 p2 (.tup []) = Kd2 at ds2 sm2 e2
      have d1 := dp_same sm2 d1
      have d2 : Dp K Kd2 (.ref p2) (.tuple []) := .tup (.inl (.inl e2)) (.nil)
      refine ⟨sizeOk (Nat.le_of_ble_eq_true rfl), fun p3 np3 => ?_⟩
      have ds3 := ds2.new np3 (o := (.tup [.str (PySem.Str.ofString "a"), .ref p2]))
      have sm3 : Same Kd2 (upd Kd2 p3 (.tup [.str (PySem.Str.ofString "a"), .ref p2])) := same_new (ds2.frd np3)
      have e3 : (upd Kd2 p3 (.tup [.str (PySem.Str.ofString "a"), .ref p2])) p3 = some (.tup [.str (PySem.Str.ofString "a"), .ref p2]) := upd_same
      have sH3 : Same K2 (upd K2 p3 (.tup [.str (PySem.Str.ofString "a"), .ref p2])) := same_new np3
      generalize upd K2 p3 (.tup [.str (PySem.Str.ofString "a"), .ref p2]) = K3 at ds3 sH3 ⊢
      generalize upd Kd2 p3 (.tup [.str (PySem.Str.ofString "a"), .ref p2]) = Kd3 at ds3 sm3 e3
      have d1 := dp_same sm3 d1
      have d2 := dp_same sm3 d2
      have d3 : Dp K Kd3 (.ref p3) (.tuple [.str (PySem.Str.ofString "a"), (.tuple [])]) := .tup (.inl (.inl e3)) (.cons (.str _) (.cons (d2) (.nil)))
      refine ⟨sizeOk (Nat.le_of_ble_eq_true rfl), fun p4 np4 => ?_⟩
      have ds4 := ds3.new np4 (o := (.lst [.ref p3]))
      have sm4 : Same Kd3 (upd Kd3 p4 (.lst [.ref p3])) := same_new (ds3.frd np4)
      have e4 : (upd Kd3 p4 (.lst [.ref p3])) p4 = some (.lst [.ref p3]) := upd_same
      have sH4 : Same K3 (upd K3 p4 (.lst [.ref p3])) := same_new np4
      generalize upd K3 p4 (.lst [.ref p3]) = K4 at ds4 sH4 ⊢
      generalize upd Kd3 p4 (.lst [.ref p3]) = Kd4 at ds4 sm4 e4
      have d1 := dp_same sm4 d1
      have d3 := dp_same sm4 d3
      have d4 : Dp K Kd4 (.ref p4) (.list [(.tuple [.str (PySem.Str.ofString "a"), (.tuple [])])]) := .lst (.inl (.inl e4)) (.cons (d3) (.nil))
      refine ⟨sizeOk (Nat.le_of_ble_eq_true rfl), fun p5 np5 => ?_⟩
      have ds5 := ds4.new np5 (o := (.tup []))
      have sm5 : Same Kd4 (upd Kd4 p5 (.tup [])) := same_new (ds4.frd np5)
      have e5 : (upd Kd4 p5 (.tup [])) p5 = some (.tup []) := upd_same
      have sH5 : Same K4 (upd K4 p5 (.tup [])) := same_new np5
      generalize upd K4 p5 (.tup []) = K5 at ds5 sH5 ⊢
      generalize upd Kd4 p5 (.tup []) = Kd5 at ds5 sm5 e5
      have d1 := dp_same sm5 d1
      have d4 := dp_same sm5 d4
      have d5 : Dp K Kd5 (.ref p5) (.tuple []) := .tup (.inl (.inl e5)) (.nil)
      refine ⟨sizeOk (Nat.le_of_ble_eq_true rfl), fun p6 np6 => ?_⟩
      have ds6 := ds5.new np6 (o := (.tup [.str (PySem.Str.ofString "a"), .ref p5]))
      have sm6 : Same Kd5 (upd Kd5 p6 (.tup [.str (PySem.Str.ofString "a"), .ref p5])) := same_new (ds5.frd np6)
      have e6 : (upd Kd5 p6 (.tup [.str (PySem.Str.ofString "a"), .ref p5])) p6 = some (.tup [.str (PySem.Str.ofString "a"), .ref p5]) := upd_same
      have sH6 : Same K5 (upd K5 p6 (.tup [.str (PySem.Str.ofString "a"), .ref p5])) := same_new np6
      generalize upd K5 p6 (.tup [.str (PySem.Str.ofString "a"), .ref p5]) = K6 at ds6 sH6 ⊢
      generalize upd Kd5 p6 (.tup [.str (PySem.Str.ofString "a"), .ref p5]) = Kd6 at ds6 sm6 e6
      have d1 := dp_same sm6 d1
      have d4 := dp_same sm6 d4
      have d5 := dp_same sm6 d5
      have d6 : Dp K Kd6 (.ref p6) (.tuple [.str (PySem.Str.ofString "a"), (.tuple [])]) := .tup (.inl (.inl e6)) (.cons (.str _) (.cons (d5) (.nil)))
      refine ⟨sizeOk (Nat.le_of_ble_eq_true rfl), fun p7 np7 => ?_⟩
      have ds7 := ds6.new np7 (o := (.tup [.str (PySem.Str.ofString "a")]))
      have sm7 : Same Kd6 (upd Kd6 p7 (.tup [.str (PySem.Str.ofString "a")])) := same_new (ds6.frd np7)
      have e7 : (upd Kd6 p7 (.tup [.str (PySem.Str.ofString "a")])) p7 = some (.tup [.str (PySem.Str.ofString "a")]) := upd_same
      have sH7 : Same K6 (upd K6 p7 (.tup [.str (PySem.Str.ofString "a")])) := same_new np7
      generalize upd K6 p7 (.tup [.str (PySem.Str.ofString "a")]) = K7 at ds7 sH7 ⊢
      generalize upd Kd6 p7 (.tup [.str (PySem.Str.ofString "a")]) = Kd7 at ds7 sm7 e7
      have d1 := dp_same sm7 d1
      have d4 := dp_same sm7 d4
      have d6 := dp_same sm7 d6
      have d7 : Dp K Kd7 (.ref p7) (.tuple [.str (PySem.Str.ofString "a")]) := .tup (.inl (.inl e7)) (.cons (.str _) (.nil))
      refine ⟨sizeOk (Nat.le_of_ble_eq_true rfl), fun p8 np8 => ?_⟩
      have ds8 := ds7.new np8 (o := (.tup []))
      have sm8 : Same Kd7 (upd Kd7 p8 (.tup [])) := same_new (ds7.frd np8)
      have e8 : (upd Kd7 p8 (.tup [])) p8 = some (.tup []) := upd_same
      have sH8 : Same K7 (upd K7 p8 (.tup [])) := same_new np8
      generalize upd K7 p8 (.tup []) = K8 at ds8 sH8 ⊢
      generalize upd Kd7 p8 (.tup []) = Kd8 at ds8 sm8 e8
      have d1 := dp_same sm8 d1
      have d4 := dp_same sm8 d4
      have d6 := dp_same sm8 d6
      have d7 := dp_same sm8 d7
      have d8 : Dp K Kd8 (.ref p8) (.tuple []) := .tup (.inl (.inl e8)) (.nil)
      refine ⟨sizeOk (Nat.le_of_ble_eq_true rfl), fun p9 np9 => ?_⟩
      have ds9 := ds8.new np9 (o := (.tup [.str (PySem.Str.ofString "a"), .ref p8]))
      have sm9 : Same Kd8 (upd Kd8 p9 (.tup [.str (PySem.Str.ofString "a"), .ref p8])) := same_new (ds8.frd np9)
      have e9 : (upd Kd8 p9 (.tup [.str (PySem.Str.ofString "a"), .ref p8])) p9 = some (.tup [.str (PySem.Str.ofString "a"), .ref p8]) := upd_same
      have sH9 : Same K8 (upd K8 p9 (.tup [.str (PySem.Str.ofString "a"), .ref p8])) := same_new np9
      generalize upd K8 p9 (.tup [.str (PySem.Str.ofString "a"), .ref p8]) = K9 at ds9 sH9 ⊢
      generalize upd Kd8 p9 (.tup [.str (PySem.Str.ofString "a"), .ref p8]) = Kd9 at ds9 sm9 e9
      have d1 := dp_same sm9 d1
      have d4 := dp_same sm9 d4
      have d6 := dp_same sm9 d6
      have d7 := dp_same sm9 d7
      have d8 := dp_same sm9 d8
      have d9 : Dp K Kd9 (.ref p9) (.tuple [.str (PySem.Str.ofString "a"), (.tuple [])]) := .tup (.inl (.inl e9)) (.cons (.str _) (.cons (d8) (.nil)))
      refine ⟨sizeOk (Nat.le_of_ble_eq_true rfl), fun p10 np10 => ?_⟩
      have ds10 := ds9.new np10 (o := (.tup [.ref p9, .non]))
      have sm10 : Same Kd9 (upd Kd9 p10 (.tup [.ref p9, .non])) := same_new (ds9.frd np10)
      have e10 : (upd Kd9 p10 (.tup [.ref p9, .non])) p10 = some (.tup [.ref p9, .non]) := upd_same
      have sH10 : Same K9 (upd K9 p10 (.tup [.ref p9, .non])) := same_new np10
      generalize upd K9 p10 (.tup [.ref p9, .non]) = K10 at ds10 sH10 ⊢
      generalize upd Kd9 p10 (.tup [.ref p9, .non]) = Kd10 at ds10 sm10 e10
      have d1 := dp_same sm10 d1
      have d4 := dp_same sm10 d4
      have d6 := dp_same sm10 d6
      have d7 := dp_same sm10 d7
      have d9 := dp_same sm10 d9
      have d10 : Dp K Kd10 (.ref p10) (.tuple [(.tuple [.str (PySem.Str.ofString "a"), (.tuple [])]), .none]) := .tup (.inl (.inl e10)) (.cons (d9) (.cons (.non) (.nil)))
      refine ⟨sizeOk (Nat.le_of_ble_eq_true rfl), fun p11 np11 => ?_⟩
      have ds11 := ds10.new np11 (o := (.tup []))
      have sm11 : Same Kd10 (upd Kd10 p11 (.tup [])) := same_new (ds10.frd np11)
      have e11 : (upd Kd10 p11 (.tup [])) p11 = some (.tup []) := upd_same
      have sH11 : Same K10 (upd K10 p11 (.tup [])) := same_new np11
      generalize upd K10 p11 (.tup []) = K11 at ds11 sH11 ⊢
      generalize upd Kd10 p11 (.tup []) = Kd11 at ds11 sm11 e11
      have d1 := dp_same sm11 d1
      have d4 := dp_same sm11 d4
      have d6 := dp_same sm11 d6
      have d7 := dp_same sm11 d7
      have d10 := dp_same sm11 d10
      have d11 : Dp K Kd11 (.ref p11) (.tuple []) := .tup (.inl (.inl e11)) (.nil)
      refine ⟨sizeOk (Nat.le_of_ble_eq_true rfl), fun p12 np12 => ?_⟩
      have ds12 := ds11.new np12 (o := (.tup [.ref p11]))
      have sm12 : Same Kd11 (upd Kd11 p12 (.tup [.ref p11])) := same_new (ds11.frd np12)
      have e12 : (upd Kd11 p12 (.tup [.ref p11])) p12 = some (.tup [.ref p11]) := upd_same
      have sH12 : Same K11 (upd K11 p12 (.tup [.ref p11])) := same_new np12
      generalize upd K11 p12 (.tup [.ref p11]) = K12 at ds12 sH12 ⊢
      generalize upd Kd11 p12 (.tup [.ref p11]) = Kd12 at ds12 sm12 e12
      have d1 := dp_same sm12 d1
      have d4 := dp_same sm12 d4
      have d6 := dp_same sm12 d6
      have d7 := dp_same sm12 d7
      have d10 := dp_same sm12 d10
      have d11 := dp_same sm12 d11
      have d12 : Dp K Kd12 (.ref p12) (.tuple [(.tuple [])]) := .tup (.inl (.inl e12)) (.cons (d11) (.nil))
      refine ⟨1, rfl, sizeOk (Nat.le_of_ble_eq_true rfl), fun W nW => ?_⟩
      have all : DpAll K Kd12 [.non, .int 0, .int 1, .bl true, .bl false, .str (PySem.Str.ofString ""), .str (PySem.Str.ofString "a"), .ref p1, .ref p4, .ref p6, .ref p7, .ref p10, .ref p12, .int (-1)] wholesD := .cons (.non) (.cons (.int _) (.cons (.int _) (.cons (.bl _) (.cons (.bl _) (.cons (.str _) (.cons (.str _) (.cons (d1) (.cons (d4) (.cons (d6) (.cons (d7) (.cons (d10) (.cons (d12) (.cons (.int _) (.nil))))))))))))))
      have sW : Same K12 (upd K12 W (.lst [.non, .int 0, .int 1, .bl true, .bl false, .str (PySem.Str.ofString ""), .str (PySem.Str.ofString "a"), .ref p1, .ref p4, .ref p6, .ref p7, .ref p10, .ref p12, .int (-1)])) := same_new nW
      have eW : (upd K12 W (.lst [.non, .int 0, .int 1, .bl true, .bl false, .str (PySem.Str.ofString ""), .str (PySem.Str.ofString "a"), .ref p1, .ref p4, .ref p6, .ref p7, .ref p10, .ref p12, .int (-1)])) W = some (.lst [.non, .int 0, .int 1, .bl true, .bl false, .str (PySem.Str.ofString ""), .str (PySem.Str.ofString "a"), .ref p1, .ref p4, .ref p6, .ref p7, .ref p10, .ref p12, .int (-1)]) := upd_same
      have dsw := ds12.out sW
      have nWa : W ≠ a := (ds12.e.ne nW).symm
      generalize upd K12 W (.lst [.non, .int 0, .int 1, .bl true, .bl false, .str (PySem.Str.ofString ""), .str (PySem.Str.ofString "a"), .ref p1, .ref p4, .ref p6, .ref p7, .ref p10, .ref p12, .int (-1)]) = KW at dsw eW ⊢
      refine ⟨_, rfl, _, rfl, a, 14, rfl, dsw.e, by decide, by decide, fun y H5 hy b5 e5 => ?_⟩
      obtain ⟨x, hx⟩ : ∃ x, ([.non, .int 0, .int 1, .bl true, .bl false, .str (PySem.Str.ofString ""), .str (PySem.Str.ofString "a"), .ref p1, .ref p4, .ref p6, .ref p7, .ref p10, .ref p12, .int (-1)] : List V)[y]? = some x := ⟨_, List.getElem?_eq_getElem hy⟩
      obtain ⟨dd, hd, dx⟩ := dpAll_get all hx
      obtain ⟨k1, k2⟩ := wholesD_no dd (List.mem_of_getElem? hd)
      exact ⟨W, _, _, x, rfl, rfl, .inl (.inl (b5 _ _ eW nWa)), atI_nat hx, q H5 Kd12 x dd (dsw.draw b5 e5) dx k1 (fit_le k2 (by omega))⟩
    · rw [decide_eq_false hz]
      refine iteF ⟨_, rfl, a, 5, rfl, dsa.e, by decide, by decide, fun z H1 hz5 b1 e1 => ⟨rfl, _, rfl, ?_⟩⟩
      rw [dec_nat0]
      have dsb := dsa.draw b1 e1
      by_cases h0 : z = 0
      · rw [decide_eq_true h0]
        refine iteT ?_
        refine ⟨sizeOk (Nat.le_of_ble_eq_true rfl), fun p1 np1 => ?_⟩
        have ds1 := dsb.new np1 (o := (.lst []))
        have sm1 : Same Hd (upd Hd p1 (.lst [])) := same_new (dsb.frd np1)
        have e1 : (upd Hd p1 (.lst [])) p1 = some (.lst []) := upd_same
        have sH1 : Same H1 (upd H1 p1 (.lst [])) := same_new np1
        generalize upd H1 p1 (.lst []) = K1 at ds1 sH1 ⊢
        generalize upd Hd p1 (.lst []) = Kd1 at ds1 sm1 e1
        have d1 : Dp K Kd1 (.ref p1) (.list []) := .lst (.inl (.inl e1)) (.nil)
        refine ⟨sizeOk (Nat.le_of_ble_eq_true rfl), fun p2 np2 => ?_⟩
        have ds2 := ds1.new np2 (o := (.tup []))
        have sm2 : Same Kd1 (upd Kd1 p2 (.tup [])) := same_new (ds1.frd np2)
        have e2 : (upd Kd1 p2 (.tup [])) p2 = some (.tup []) := upd_same
        have sH2 : Same K1 (upd K1 p2 (.tup [])) := same_new np2
        generalize upd K1 p2 (.tup []) = K2 at ds2 sH2 ⊢
        generalize upd Kd1 p2 (.tup []) = Kd2 at ds2 sm2 e2
        have d1 := dp_same sm2 d1
        have d2 : Dp K Kd2 (.ref p2) (.tuple []) := .tup (.inl (.inl e2)) (.nil)
        refine ⟨sizeOk (Nat.le_of_ble_eq_true rfl), fun p3 np3 => ?_⟩
        have ds3 := ds2.new np3 (o := (.tup [.str (PySem.Str.ofString "a"), .ref p2]))
        have sm3 : Same Kd2 (upd Kd2 p3 (.tup [.str (PySem.Str.ofString "a"), .ref p2])) := same_new (ds2.frd np3)
        have e3 : (upd Kd2 p3 (.tup [.str (PySem.Str.ofString "a"), .ref p2])) p3 = some (.tup [.str (PySem.Str.ofString "a"), .ref p2]) := upd_same
        have sH3 : Same K2 (upd K2 p3 (.tup [.str (PySem.Str.ofString "a"), .ref p2])) := same_new np3
        generalize upd K2 p3 (.tup [.str (PySem.Str.ofString "a"), .ref p2]) = K3 at ds3 sH3 ⊢
        generalize upd Kd2 p3 (.tup [.str (PySem.Str.ofString "a"), .ref p2]) = Kd3 at ds3 sm3 e3
        have d1 := dp_same sm3 d1
        have d2 := dp_same sm3 d2
        have d3 : Dp K Kd3 (.ref p3) (.tuple [.str (PySem.Str.ofString "a"), (.tuple [])]) := .tup (.inl (.inl e3)) (.cons (.str _) (.cons (d2) (.nil)))
        refine ⟨sizeOk (Nat.le_of_ble_eq_true rfl), fun p4 np4 => ?_⟩
        have ds4 := ds3.new np4 (o := (.lst [.ref p3]))
        have sm4 : Same Kd3 (upd Kd3 p4 (.lst [.ref p3])) := same_new (ds3.frd np4)
        have e4 : (upd Kd3 p4 (.lst [.ref p3])) p4 = some (.lst [.ref p3]) := upd_same
        have sH4 : Same K3 (upd K3 p4 (.lst [.ref p3])) := same_new np4
        generalize upd K3 p4 (.lst [.ref p3]) = K4 at ds4 sH4 ⊢
        generalize upd Kd3 p4 (.lst [.ref p3]) = Kd4 at ds4 sm4 e4
        have d1 := dp_same sm4 d1
        have d3 := dp_same sm4 d3
        have d4 : Dp K Kd4 (.ref p4) (.list [(.tuple [.str (PySem.Str.ofString "a"), (.tuple [])])]) := .lst (.inl (.inl e4)) (.cons (d3) (.nil))
        refine ⟨sizeOk (Nat.le_of_ble_eq_true rfl), fun p5 np5 => ?_⟩
        have ds5 := ds4.new np5 (o := (.tup []))
        have sm5 : Same Kd4 (upd Kd4 p5 (.tup [])) := same_new (ds4.frd np5)
        have e5 : (upd Kd4 p5 (.tup [])) p5 = some (.tup []) := upd_same
        have sH5 : Same K4 (upd K4 p5 (.tup [])) := same_new np5
        generalize upd K4 p5 (.tup []) = K5 at ds5 sH5 ⊢
        generalize upd Kd4 p5 (.tup []) = Kd5 at ds5 sm5 e5
        have d1 := dp_same sm5 d1
        have d4 := dp_same sm5 d4
        have d5 : Dp K Kd5 (.ref p5) (.tuple []) := .tup (.inl (.inl e5)) (.nil)
        refine ⟨sizeOk (Nat.le_of_ble_eq_true rfl), fun p6 np6 => ?_⟩
        have ds6 := ds5.new np6 (o := (.tup [.str (PySem.Str.ofString "a"), .ref p5]))
        have sm6 : Same Kd5 (upd Kd5 p6 (.tup [.str (PySem.Str.ofString "a"), .ref p5])) := same_new (ds5.frd np6)
        have e6 : (upd Kd5 p6 (.tup [.str (PySem.Str.ofString "a"), .ref p5])) p6 = some (.tup [.str (PySem.Str.ofString "a"), .ref p5]) := upd_same
        have sH6 : Same K5 (upd K5 p6 (.tup [.str (PySem.Str.ofString "a"), .ref p5])) := same_new np6
        generalize upd K5 p6 (.tup [.str (PySem.Str.ofString "a"), .ref p5]) = K6 at ds6 sH6 ⊢
        generalize upd Kd5 p6 (.tup [.str (PySem.Str.ofString "a"), .ref p5]) = Kd6 at ds6 sm6 e6
        have d1 := dp_same sm6 d1
        have d4 := dp_same sm6 d4
        have d5 := dp_same sm6 d5
        have d6 : Dp K Kd6 (.ref p6) (.tuple [.str (PySem.Str.ofString "a"), (.tuple [])]) := .tup (.inl (.inl e6)) (.cons (.str _) (.cons (d5) (.nil)))
        refine ⟨sizeOk (Nat.le_of_ble_eq_true rfl), fun p7 np7 => ?_⟩
        have ds7 := ds6.new np7 (o := (.tup [.str (PySem.Str.ofString "a")]))
        have sm7 : Same Kd6 (upd Kd6 p7 (.tup [.str (PySem.Str.ofString "a")])) := same_new (ds6.frd np7)
        have e7 : (upd Kd6 p7 (.tup [.str (PySem.Str.ofString "a")])) p7 = some (.tup [.str (PySem.Str.ofString "a")]) := upd_same
        have sH7 : Same K6 (upd K6 p7 (.tup [.str (PySem.Str.ofString "a")])) := same_new np7
        generalize upd K6 p7 (.tup [.str (PySem.Str.ofString "a")]) = K7 at ds7 sH7 ⊢
        generalize upd Kd6 p7 (.tup [.str (PySem.Str.ofString "a")]) = Kd7 at ds7 sm7 e7
        have d1 := dp_same sm7 d1
        have d4 := dp_same sm7 d4
        have d6 := dp_same sm7 d6
        have d7 : Dp K Kd7 (.ref p7) (.tuple [.str (PySem.Str.ofString "a")]) := .tup (.inl (.inl e7)) (.cons (.str _) (.nil))
        refine ⟨sizeOk (Nat.le_of_ble_eq_true rfl), fun p8 np8 => ?_⟩
        have ds8 := ds7.new np8 (o := (.tup []))
        have sm8 : Same Kd7 (upd Kd7 p8 (.tup [])) := same_new (ds7.frd np8)
        have e8 : (upd Kd7 p8 (.tup [])) p8 = some (.tup []) := upd_same
        have sH8 : Same K7 (upd K7 p8 (.tup [])) := same_new np8
        generalize upd K7 p8 (.tup []) = K8 at ds8 sH8 ⊢
        generalize upd Kd7 p8 (.tup []) = Kd8 at ds8 sm8 e8
        have d1 := dp_same sm8 d1
        have d4 := dp_same sm8 d4
        have d6 := dp_same sm8 d6
        have d7 := dp_same sm8 d7
        have d8 : Dp K Kd8 (.ref p8) (.tuple []) := .tup (.inl (.inl e8)) (.nil)
        refine ⟨sizeOk (Nat.le_of_ble_eq_true rfl), fun p9 np9 => ?_⟩
        have ds9 := ds8.new np9 (o := (.tup [.str (PySem.Str.ofString "a"), .ref p8]))
        have sm9 : Same Kd8 (upd Kd8 p9 (.tup [.str (PySem.Str.ofString "a"), .ref p8])) := same_new (ds8.frd np9)
        have e9 : (upd Kd8 p9 (.tup [.str (PySem.Str.ofString "a"), .ref p8])) p9 = some (.tup [.str (PySem.Str.ofString "a"), .ref p8]) := upd_same
        have sH9 : Same K8 (upd K8 p9 (.tup [.str (PySem.Str.ofString "a"), .ref p8])) := same_new np9
        generalize upd K8 p9 (.tup [.str (PySem.Str.ofString "a"), .ref p8]) = K9 at ds9 sH9 ⊢
        generalize upd Kd8 p9 (.tup [.str (PySem.Str.ofString "a"), .ref p8]) = Kd9 at ds9 sm9 e9
        have d1 := dp_same sm9 d1
        have d4 := dp_same sm9 d4
        have d6 := dp_same sm9 d6
        have d7 := dp_same sm9 d7
        have d8 := dp_same sm9 d8
        have d9 : Dp K Kd9 (.ref p9) (.tuple [.str (PySem.Str.ofString "a"), (.tuple [])]) := .tup (.inl (.inl e9)) (.cons (.str _) (.cons (d8) (.nil)))
        refine ⟨sizeOk (Nat.le_of_ble_eq_true rfl), fun p10 np10 => ?_⟩
        have ds10 := ds9.new np10 (o := (.tup [.ref p9, .non]))
        have sm10 : Same Kd9 (upd Kd9 p10 (.tup [.ref p9, .non])) := same_new (ds9.frd np10)
        have e10 : (upd Kd9 p10 (.tup [.ref p9, .non])) p10 = some (.tup [.ref p9, .non]) := upd_same
        have sH10 : Same K9 (upd K9 p10 (.tup [.ref p9, .non])) := same_new np10
        generalize upd K9 p10 (.tup [.ref p9, .non]) = K10 at ds10 sH10 ⊢
        generalize upd Kd9 p10 (.tup [.ref p9, .non]) = Kd10 at ds10 sm10 e10
        have d1 := dp_same sm10 d1
        have d4 := dp_same sm10 d4
        have d6 := dp_same sm10 d6
        have d7 := dp_same sm10 d7
        have d9 := dp_same sm10 d9
        have d10 : Dp K Kd10 (.ref p10) (.tuple [(.tuple [.str (PySem.Str.ofString "a"), (.tuple [])]), .none]) := .tup (.inl (.inl e10)) (.cons (d9) (.cons (.non) (.nil)))
        refine ⟨sizeOk (Nat.le_of_ble_eq_true rfl), fun p11 np11 => ?_⟩
        have ds11 := ds10.new np11 (o := (.tup []))
        have sm11 : Same Kd10 (upd Kd10 p11 (.tup [])) := same_new (ds10.frd np11)
        have e11 : (upd Kd10 p11 (.tup [])) p11 = some (.tup []) := upd_same
        have sH11 : Same K10 (upd K10 p11 (.tup [])) := same_new np11
        generalize upd K10 p11 (.tup []) = K11 at ds11 sH11 ⊢
        generalize upd Kd10 p11 (.tup []) = Kd11 at ds11 sm11 e11
        have d1 := dp_same sm11 d1
        have d4 := dp_same sm11 d4
        have d6 := dp_same sm11 d6
        have d7 := dp_same sm11 d7
        have d10 := dp_same sm11 d10
        have d11 : Dp K Kd11 (.ref p11) (.tuple []) := .tup (.inl (.inl e11)) (.nil)
        refine ⟨sizeOk (Nat.le_of_ble_eq_true rfl), fun p12 np12 => ?_⟩
        have ds12 := ds11.new np12 (o := (.tup [.ref p11]))
        have sm12 : Same Kd11 (upd Kd11 p12 (.tup [.ref p11])) := same_new (ds11.frd np12)
        have e12 : (upd Kd11 p12 (.tup [.ref p11])) p12 = some (.tup [.ref p11]) := upd_same
        have sH12 : Same K11 (upd K11 p12 (.tup [.ref p11])) := same_new np12
        generalize upd K11 p12 (.tup [.ref p11]) = K12 at ds12 sH12 ⊢
        generalize upd Kd11 p12 (.tup [.ref p11]) = Kd12 at ds12 sm12 e12
        have d1 := dp_same sm12 d1
        have d4 := dp_same sm12 d4
        have d6 := dp_same sm12 d6
        have d7 := dp_same sm12 d7
        have d10 := dp_same sm12 d10
        have d11 := dp_same sm12 d11
        have d12 : Dp K Kd12 (.ref p12) (.tuple [(.tuple [])]) := .tup (.inl (.inl e12)) (.cons (d11) (.nil))
        refine ⟨1, rfl, sizeOk (Nat.le_of_ble_eq_true rfl), fun W nW => ?_⟩
        have all : DpAll K Kd12 [.non, .int 0, .int 1, .bl true, .bl false, .str (PySem.Str.ofString ""), .str (PySem.Str.ofString "a"), .ref p1, .ref p4, .ref p6, .ref p7, .ref p10, .ref p12, .int (-1)] wholesD := .cons (.non) (.cons (.int _) (.cons (.int _) (.cons (.bl _) (.cons (.bl _) (.cons (.str _) (.cons (.str _) (.cons (d1) (.cons (d4) (.cons (d6) (.cons (d7) (.cons (d10) (.cons (d12) (.cons (.int _) (.nil))))))))))))))
        have sW : Same K12 (upd K12 W (.lst [.non, .int 0, .int 1, .bl true, .bl false, .str (PySem.Str.ofString ""), .str (PySem.Str.ofString "a"), .ref p1, .ref p4, .ref p6, .ref p7, .ref p10, .ref p12, .int (-1)])) := same_new nW
        have eW : (upd K12 W (.lst [.non, .int 0, .int 1, .bl true, .bl false, .str (PySem.Str.ofString ""), .str (PySem.Str.ofString "a"), .ref p1, .ref p4, .ref p6, .ref p7, .ref p10, .ref p12, .int (-1)])) W = some (.lst [.non, .int 0, .int 1, .bl true, .bl false, .str (PySem.Str.ofString ""), .str (PySem.Str.ofString "a"), .ref p1, .ref p4, .ref p6, .ref p7, .ref p10, .ref p12, .int (-1)]) := upd_same
        have dsw := ds12.out sW
        have nWa : W ≠ a := (ds12.e.ne nW).symm
        generalize upd K12 W (.lst [.non, .int 0, .int 1, .bl true, .bl false, .str (PySem.Str.ofString ""), .str (PySem.Str.ofString "a"), .ref p1, .ref p4, .ref p6, .ref p7, .ref p10, .ref p12, .int (-1)]) = KW at dsw eW ⊢
        refine ⟨_, rfl, _, rfl, a, 14, rfl, dsw.e, by decide, by decide, fun y H5 hy b5 e5 => ?_⟩
        obtain ⟨x, hx⟩ : ∃ x, ([.non, .int 0, .int 1, .bl true, .bl false, .str (PySem.Str.ofString ""), .str (PySem.Str.ofString "a"), .ref p1, .ref p4, .ref p6, .ref p7, .ref p10, .ref p12, .int (-1)] : List V)[y]? = some x := ⟨_, List.getElem?_eq_getElem hy⟩
        obtain ⟨dd, hd, dx⟩ := dpAll_get all hx
        obtain ⟨k1, k2⟩ := wholesD_no dd (List.mem_of_getElem? hd)
        exact ⟨W, _, _, x, rfl, rfl, .inl (.inl (b5 _ _ eW nWa)), atI_nat hx, q H5 Kd12 x dd (dsw.draw b5 e5) dx k1 (fit_le k2 (by omega))⟩
      rw [decide_eq_false h0]
      refine iteF ⟨_, rfl, _, rfl, a, F.size, rfl, dsb.e, by omega, by omega, fun sp H2 hsp b2 e2 => ?_⟩
      have dsc := dsb.draw b2 e2
      have b12 := b1.trans b2
      -- rows
      refine ⟨_, rfl, _, _, rfl, rfl, ((F.size + 1 : Nat) : Int), rfl, by omega, by omega, fun R nR => ?_⟩
      rw [Int.toNat_natCast]
      refine lc_it walk_range (fun i H' => ∃ rs : List Addr, rs.length = i ∧ Same H2 H' ∧ H' R = some (.lst (rs.map V.ref)) ∧ rs.Nodup ∧ ¬ R ∈ rs ∧ ∀ r ∈ rs, H2 r = none ∧ H' r = some (.lst [])) ⟨[], rfl, same_new nR, upd_same, List.nodup_nil, (fun h => nomatch h), fun _ h => nomatch h⟩ (fun _ _ _ _ => trivial) ?_ ?_
      · rintro i x H4 H3 hi ⟨rs, hl, s1, eR, nd, nRs, ha⟩ ⟨rfl, _⟩
        refine ⟨rfl, Nat.zero_le _, fun p np => ⟨_, same_new np _ _ eR, by rw [List.length_map, hl]; exact sz_lt (by omega), rs ++ [p], by rw [List.length_append, hl]; rfl, same_set (s1.trans (same_new np)) nR, by rw [upd_same, List.map_append]; rfl, ?_, ?_, ?_⟩⟩
        · refine List.nodup_append.mpr ⟨nd, List.nodup_cons.mpr ⟨by simp, List.nodup_nil⟩, fun a h b hb e => ?_⟩
          have := (ha a h).2
          rw [e, List.mem_singleton.mp hb, np] at this
          cases this
        · intro h
          rcases List.mem_append.mp h with h | h
          · exact nRs h
          · rw [List.mem_singleton.mp h, np] at eR
            cases eR
        · intro r h
          rcases List.mem_append.mp h with h | h
          · refine ⟨(ha r h).1, ?_⟩
            rw [upd_ne (fun e : r = R => nRs (e ▸ h))]
            exact same_new np _ _ (ha r h).2
          · rw [List.mem_singleton.mp h]
            exact ⟨s1.free np, by rw [upd_ne (fun e : p = R => by rw [e, eR] at np; cases np), upd_same]⟩
      rintro H3 ⟨rs, hl, s3, eR, nd, nRs, ha⟩
      have nRa : R ≠ a := (dsc.e.ne nR).symm
      have nrsa : ¬ a ∈ rs := fun m => (dsc.e.ne (ha a m).1) rfl
      have ds3 := dsc.out s3
      have fRd : Hd R = none := dsc.frd nR
      refine ⟨_, rfl, _, rfl, by decide, by decide, by omega, by omega, ?_⟩
      rw [show (0 : Int) + ((((F.size : Int) - 0).toNat : Nat) : Int) - 1 = (F.size : Int) - 1 by omega, show ((F.size : Int) - 0).toNat = F.size by omega]
      have ev : ∀ i : Nat, i < F.size → (F.size : Int) - 1 + (i : Int) * -1 = ((F.size - 1 - i : Nat) : Int) := fun i h => by omega
      refine for_it walk_rangeC (fun i σ H' => ∃ y6 y8 y9 Hd1 Rw, σ = [some (.ref a), some (.ref lw), some (.ref lp), some (.int (F.size : Int)), none, some (.int (sp : Int)), y6, some (.ref R), y8, y9] ∧ DS a Hd H Hd1 H' ∧ RowsD K Hd1 H' R rs Rw ∧ BadIn F.size sp (F.size - i) i Rw)
        ⟨none, none, none, Hd, fun _ => [], rfl, ds3, ⟨ds3.g2, eR, fRd, nd, nRs, (fun r m => dsc.frd (ha r m).1), fun i r e => ⟨[], (ha r (List.mem_of_getElem? e)).2, .nil⟩⟩, ⟨fun _ => rfl, fun _ => Nat.le_refl _, (fun _ _ c h => nomatch h), fun h => by omega⟩⟩ (fun _ _ _ _ _ => trivial) ?_ ?_
      · rintro i x σ H5 H4 hi ⟨y6, y8, y9, Hd1, Rw, rfl, ds4, hR, bi⟩ ⟨rfl, hx⟩
        have hx : x = V.int ((F.size - 1 - i : Nat) : Int) := Eq.trans hx (congrArg V.int (ev i hi))
        subst hx
        have hk : F.size - 1 - i < F.size := by omega
        rw [show F.size - (i + 1) = F.size - 1 - i by omega]
        rw [show F.size - i = F.size - 1 - i + 1 by omega] at bi
        generalize F.size - 1 - i = k at hk bi ⊢
        have hpk := hpo k (by omega)
        obtain ⟨r, er, ar⟩ := at_row (p := gI ps k) hl (hge k hk) (by omega)
        obtain ⟨rk, erk, ark⟩ := at_row (p := (k : Int)) hl (by omega) (by omega)
        have ek : rowIx F.size (k : Int) = k := by unfold rowIx; rw [if_neg (by omega)]; rfl
        rw [ek] at erk
        have hP4 := ds4.b _ _ hP npa
        have hW4 := ds4.b _ _ hW nwa
        refine ⟨_, rfl, _, rfl, _, rfl, lp, _, _, _, rfl, rfl, .inl (.inl hP4), atV rfl (by omega), R, _, _, .ref r, rfl, rfl, .inl (.inl hR.h), ar, ?_⟩
        obtain ⟨uk, huk, duk⟩ := hR.at_ _ rk erk
        have gw := get_D (a := prw F) (i := k) (by rw [prw_len]; exact hk)
        have ow : wordOk ((prw F).getD k (PySem.Str.ofString "")) = true := ws_at hok (by rw [prw_len]; exact hk)
        refine ⟨_, rfl, _, rfl, lw, _, _, _, rfl, rfl, .inl (.inl hW4), atI_nat (ssV_at gw), _, rfl, _, rfl, R, _, _, .ref rk, rfl, rfl, .inl (.inl hR.h), ark, rk, uk, rfl, .inl ⟨.inl (.inl huk), fun p1 np1 => ⟨by show 2 ≤ sizeLine; decide, fun p2 np2 => ?_⟩⟩⟩
        generalize (prw F).getD k (PySem.Str.ofString "") = wd at gw ow ⊢
        have fwl : wd.length ≤ 1000 := by have := (wordOk_iff ow).2.1; omega
        have hcl : (Rw k).length ≤ 1000 := by have := bi.len k; omega
        have hcf := bi.fits k
        have hR1 := hR.new np1 (o := .tup uk)
        have hR2 := hR1.new np2 (o := .tup [.str wd, .ref p1])
        have ds5 := ds4.new np1 (o := .tup uk)
        have ds6 := ds5.new np2 (o := .tup [.str wd, .ref p1])
        have f1 : Same Hd1 (upd Hd1 p1 (.tup uk)) := same_new (hR.fr np1)
        have f2 : Same (upd Hd1 p1 (.tup uk)) (upd (upd Hd1 p1 (.tup uk)) p2 (.tup [.str wd, .ref p1])) := same_new (hR1.fr np2)
        have dt : Dp K (upd (upd Hd1 p1 (.tup uk)) p2 (.tup [.str wd, .ref p1])) (.ref p2) (.tuple [.str wd, .tuple (Rw k)]) := .tup (.inl (.inl upd_same)) (.cons (.str _) (.cons (.tup (.inl (.inl (f2 _ _ upd_same))) (dps_same (f1.trans f2) duk)) .nil))
        have ft : fit (.tuple [.str wd, .tuple (Rw k)]) (3 * i + 3) = true := by
          have g := fitAll_le (n := 3 * i + 1) hcf (by omega)
          simp [fit, fitAll, g, hcl, fwl]
        generalize upd (upd H4 p1 (.tup uk)) p2 (.tup [.str wd, .ref p1]) = H6 at hR2 ds6 ⊢
        generalize upd (upd Hd1 p1 (.tup uk)) p2 (.tup [.str wd, .ref p1]) = Hd2 at hR2 ds6 dt
        clear f1 f2 hR1 ds5
        refine ⟨fun σ H' => ∃ v d Hd3, σ = [some (.ref a), some (.ref lw), some (.ref lp), some (.int (F.size : Int)), none, some (.int (sp : Int)), some (.int (k : Int)), some (.ref R), some (.ref r), some v] ∧ DS a Hd H Hd3 H' ∧ RowsD K Hd3 H' R rs Rw ∧ Dp K Hd3 v d ∧ fit d (3 * i + 3) = true ∧ (k ≠ sp → dWord d = false ∧ (dTrees (Rw k) = false → dTree d = false)) ∧ (k = sp → dTree d = false), ?_, ?_⟩
        · refine ⟨_, rfl, _, rfl, rfl, _, rfl, ?_⟩
          rw [dec_nat]
          by_cases hks : k = sp
          · rw [decide_eq_true hks]
            obtain ⟨uk, huk, duk⟩ := hR2.at_ _ rk erk
            have hW6 := ds6.b _ _ hW nwa
            refine iteT ⟨_, rfl, _, rfl, _, rfl, lw, _, _, _, rfl, rfl, .inl (.inl hW6), atI_nat (ssV_at gw), _, rfl, _, rfl, R, _, _, .ref rk, rfl, rfl, .inl (.inl hR2.h), ark, rk, uk, rfl, .inl ⟨.inl (.inl huk), fun p3 np3 => ?_⟩⟩
            have hR3 := hR2.new np3 (o := .tup uk)
            have ds7 := ds6.new np3 (o := .tup uk)
            have f3 : Same Hd2 (upd Hd2 p3 (.tup uk)) := same_new (hR2.fr np3)
            refine ⟨a, _, wd, p3, Rw k, 3 * i, rfl, DS.start ds7.g2 ds7.e ds7.n, .tup (.inl (.inl upd_same)) (dps_same f3 duk), ow, hcl, hcf, bi.no (by omega) k, fun H7 Hd4 v d ds8 dv k1 k2 => ?_⟩
            exact ⟨v, d, Hd4, rfl, ds7.sub ds8, hR3.ds ds8 nRa nrsa, dv, k2, fun z => absurd hks z, fun _ => k1⟩
          · rw [decide_eq_false hks]
            refine iteF ⟨_, _, Hd2, rfl, ds6, hR2, dt, ft, fun _ => ⟨rfl, fun hb => ?_⟩, fun z => absurd z hks⟩
            rw [dTree_pair, dForest_tup, hb, Bool.and_false]
        rintro σ H7 ⟨v, d, Hd3, rfl, ds7, hR7, dv, fd, h1, h2⟩
        obtain ⟨us, hus, dus⟩ := hR7.at_ _ r er
        have hul := dpAll_len dus
        have hln := bi.len (rowIx F.size (gI ps k))
        have mr := List.mem_of_getElem? er
        refine ⟨_, rfl, .inl ⟨rfl, _, .inl (.inl hus)⟩, _, rfl, r, us, 0, v, rfl, rfl, hus, by rw [hul]; exact sz_lt (by omega), Int.le_refl _, by decide, ?_⟩
        refine ⟨_, _, _, Hd3, _, rfl, ⟨ds7.g1, ?_, ds7.g3, ?_, ?_, ds7.n⟩, hR7.put er (us := v :: us) (ds := d :: Rw (rowIx F.size (gI ps k))) (.cons dv dus), bi.next (by omega) fd hk h1 h2⟩
        · exact (hR7.put er (us := v :: us) (ds := d :: Rw (rowIx F.size (gI ps k))) (.cons dv dus)).s
        · intro c o e ne
          have nc : c ≠ r := fun z => by
            rw [z] at e ne
            have hn2 := (ha r mr).1
            rw [b12 _ _ e ne] at hn2
            cases hn2
          rw [upd_ne nc]
          exact ds7.b _ _ e ne
        · exact ds7.e.keep but_set (fun z => nrsa (z ▸ mr))
      · rintro σ H4 ⟨y6, y8, y9, Hd1, Rw, rfl, ds4, hR, bi⟩
        obtain ⟨r, er⟩ : ∃ r, rs[F.size]? = some r := ⟨_, List.getElem?_eq_getElem (by omega)⟩
        obtain ⟨us, hus, dus⟩ := hR.at_ _ r er
        refine ⟨_, rfl, _, rfl, R, _, _, .ref r, rfl, rfl, .inl (.inl hR.h), atI_nat (by rw [List.getElem?_map, er]; rfl), r, us, rfl, .inl ⟨.inl (.inl hus), fun t nt => ?_⟩⟩
        have ds5 := ds4.new nt (o := .tup us)
        obtain ⟨j, hj, hb⟩ := bi.bad (by omega)
        have hj : j = F.size := by omega
        subst hj
        refine q _ _ _ _ ds5 (.tup (.inl (.inl upd_same)) (dps_same (same_new (ds4.frd nt)) dus)) ?_ ?_
        · rw [dForest_tup]
          exact hb
        · have g := fitAll_le (n := 38) (bi.fits F.size) (by omega)
          have l := bi.len F.size
          have l2 : (Rw F.size).length ≤ 1000 := by omega
          simp [fit, g, l2]
end
end K14
set_option maxRecDepth 100000
set_option maxHeartbeats 4000000
namespace K14
open PySem PySem.Spec PyProof.Rows L2
open Fo
def partsD : List PyData := [.int (-1), .bool true, .none, .str (PySem.Str.ofString "1"), .tuple [.int 1], .list [.int 1]]
theorem partsD_no : ∀ d ∈ partsD, dCount d = false ∧ fit d 1 = true := by decide +kernel
def endsP : List PyData := [.none, .int 0, .bool true, .str (PySem.Str.ofString ""), .tuple [], .list [], .tuple [.int 1, .int 1, .int 1], .tuple [.int 1, .int 1, .int 1, .int 1]]
theorem endsP_no : ∀ d ∈ endsP, dPrices d = false ∧ fit d 6 = true := by decide +kernel
theorem trOk_last {t : PyData} (h : ∀ seen, trOk seen [t] = false) : ∀ {l : List PyData} {seen : List PyData}, trOk seen (l ++ [t]) = false := by
  intro l
  induction l with
  | nil => exact fun {seen} => h seen
  | cons x r ih =>
    intro seen
    cases hs : dSize 3 x with
    | false => exact trOk_no3 hs _ _
    | true =>
      obtain ⟨a, b, c, rfl⟩ := size3 hs
      rw [List.cons_append, trOk_3, ih]
      simp
theorem trOk_dup {a b c : PyData} {l : List PyData} : ∀ {seen : List PyData}, (seen.any fun z => PyData.eqv z (.tuple [a, b])) = true → trOk seen (l ++ [.tuple [a, b, c]]) = false := by
  induction l with
  | nil =>
    intro seen h
    show trOk seen [.tuple [a, b, c]] = false
    rw [trOk_3, h]
    simp
  | cons x r ih =>
    intro seen h
    cases hs : dSize 3 x with
    | false => exact trOk_no3 hs _ _
    | true =>
      obtain ⟨u, v, z, rfl⟩ := size3 hs
      rw [List.cons_append, trOk_3, ih (by rw [List.any_append, h]; rfl)]
      simp
theorem sIx_pos {n i : Nat} (hn : 0 < n) : HT.sIx n 0 (some ((i : Int) + 1)) ≠ 0 := by
  show HT.sIx n 0 (some ((i + 1 : Nat) : Int)) ≠ 0
  rw [HT.sIx_nat]
  omega
theorem fitAll_app : ∀ (a b : List PyData) (n : Nat), fitAll (a ++ b) n = (fitAll a n && fitAll b n)
  | [], b, n => by simp only [List.nil_append, fitAll, Bool.true_and]
  | x :: a, b, n => by simp only [List.cons_append, fitAll, fitAll_app a b n, Bool.and_assoc]
theorem strs_le : (PySem.Str.ofString "abc").length ≤ 1000 ∧ (PySem.Str.ofString "a").length ≤ 1000 ∧ (PySem.Str.ofString "b").length ≤ 1000 := by decide +kernel
theorem dup_ab (l : List PyData) : dTriples (.tuple ([.tuple [.str (PySem.Str.ofString "a"), .str (PySem.Str.ofString "b"), .int 1]] ++ l ++ [.tuple [.str (PySem.Str.ofString "a"), .str (PySem.Str.ofString "b"), .int 2]])) = false := by
  rw [List.append_assoc]
  show trOk [] (.tuple [.str (PySem.Str.ofString "a"), .str (PySem.Str.ofString "b"), .int 1] :: (l ++ [.tuple [.str (PySem.Str.ofString "a"), .str (PySem.Str.ofString "b"), .int 2]])) = false
  rw [trOk_3, trOk_dup (by decide +kernel)]
  simp
theorem same_abc (seen : List PyData) : trOk seen [.tuple [.str (PySem.Str.ofString "abc"), .str (PySem.Str.ofString "abc"), .int 1]] = false := by
  rw [trOk_3, eqv_str, decide_eq_true rfl]
  simp
theorem fit_tr : ∀ {T : List (Str × Str × Int)}, (∀ t ∈ T, wordOk t.1 = true ∧ wordOk t.2.1 = true ∧ t.1 ≠ t.2.1 ∧ 0 ≤ t.2.2) → fitAll (T.map trD) 1 = true
  | [], _ => rfl
  | t :: r, h => by
    obtain ⟨h1, h2, _⟩ := h t List.mem_cons_self
    have l1 : t.1.length ≤ 1000 := by have := (wordOk_iff h1).2.1; omega
    have l2 : t.2.1.length ≤ 1000 := by have := (wordOk_iff h2).2.1; omega
    rw [List.map_cons]
    simp only [fitAll, fit_tr (T := r) fun u hu => h u (List.mem_cons_of_mem _ hu)]
    simp [trD, fit, fitAll, l1, l2]
section
variable {P : Program} {w : World} {K : PySem.W.Frag} {mg : Str → Option Value} {base : Heap}
theorem sclawbadprices : FnScope ["_law_box_here", "_law_prices_here", "_law_kind", "_law_part", "_law_table", "_law_at"] ["_law_box_here", "_law_prices_here"] (defScope (topS 51)) := ⟨rfl, rfl, rfl, by decide +kernel, rfl, by decide +kernel, by decide +kernel⟩
def spBadPrices (K : PySem.W.Frag) : Sp := fun vs H Q _ => ∃ a vp Hd d m c T, vs = [.ref a, vp] ∧ DS a Hd H Hd H ∧ Dp K Hd vp (prD d m c T) ∧ PrOk d m c T ∧ T.length ≤ 100 ∧
  ∀ H' Hd' v e, DS a Hd H Hd' H' → Dp K Hd' v e → dPrices e = false → fit e 6 = true → Q v H'
theorem ok_law_bad_prices (T : Top P K mg) : FnOk P w K mg base CX0 3 T.d_law_bad_prices.f T.d_law_bad_prices.fd ["_law_box_here", "_law_prices_here"] (spBadPrices K) := by
  refine T.d_law_bad_prices.F.ok sclawbadprices (fun vs H Q E h => ?_) (fun cdv A outer s H vs Q E hr h => ?_)
  · obtain ⟨a, vp, Hd, d, m, c, T, rfl, _⟩ := h
    rfl
  · obtain ⟨a, vp, Hd, d, m, c, Tb, rfl, ds0, dp0, ok, hl, q⟩ := h
    refine ⟨_, pss_cons (ps_set (i := 2) sclawbadprices.nd rfl (.inl rfl) (pe_call (ok_law_draw T) (hr.mono (by omega)) rfl T.d_law_draw.g T.d_law_draw.F.kp T.d_law_draw.b .nil pass0 (pa_cons (pv 0) (pa_cons (pe_int) pa_nil))))
      (pss_cons (ps_set (i := 3) sclawbadprices.nd rfl (.inl rfl) (pe_ix ix_list (pe_lst (pa_cons (pe_un un_neg (pe_int)) (pa_cons (pe_bl) (pa_cons (pe_non) (pa_cons (pe_str) (pa_cons (pe_tup (pa_cons (pe_int) pa_nil)) (pa_cons (pe_lst (pa_cons (pe_int) pa_nil)) pa_nil))))))) (pe_call (ok_law_draw T) (hr.mono (by omega)) rfl T.d_law_draw.g T.d_law_draw.F.kp T.d_law_draw.b .nil pass0 (pa_cons (pv 0) (pa_cons (pe_int) pa_nil))) (fun _ _ => rfl)))
      (pss_cons (ps_set (i := 4) sclawbadprices.nd rfl (.inl rfl) (pe_callTy call_list_of rfl T.z_list (by decide +kernel) (pa_cons (pe_ix ix_tup (pv 1) (pe_int) (fun _ _ => rfl)) pa_nil)))
      (pss_cons (ps_if (pt_cmpR op_eq (pv 2) (pe_int) (nomark _))
      (pss_cons (ps_set (i := 5) sclawbadprices.nd rfl (.inl rfl) (pe_call (ok_law_draw T) (hr.mono (by omega)) rfl T.d_law_draw.g T.d_law_draw.F.kp T.d_law_draw.b .nil pass0 (pa_cons (pv 0) (pa_cons (pe_int) pa_nil))))
      (pss_one (ps_ret (pe_op op_catA (pe_op op_catA (pe_slice sl_tupA (pv 1) (po_none) (po_some (pv 5))) (pe_tup (pa_cons (pv 3) pa_nil))) (pe_slice sl_tupA (pv 1) (po_some (pe_op op_add (pv 5) (pe_int))) (po_none))))))
      (pss_nil))
      (pss_cons (ps_if (pt_cmpR op_eq (pv 2) (pe_int) (nomark _))
      (pss_one (ps_ret (pe_op op_catA (pe_slice sl_tupA (pv 1) (po_none) (po_some (pe_int))) (pe_tup (pa_cons (pe_callTy call_tuple_of rfl T.z_tuple (by decide +kernel) (pa_cons (pe_op op_cat (pv 4) (pe_lst (pa_cons (pe_tup (pa_cons (pe_str) (pa_cons (pe_str) (pa_cons (pe_int) pa_nil)))) pa_nil))) pa_nil)) pa_nil)))))
      (pss_nil))
      (pss_cons (ps_if (pt_cmpR op_eq (pv 2) (pe_int) (nomark _))
      (pss_one (ps_ret (pe_op op_catA (pe_slice sl_tupA (pv 1) (po_none) (po_some (pe_int))) (pe_tup (pa_cons (pe_callTy call_tuple_of rfl T.z_tuple (by decide +kernel) (pa_cons (pe_op op_cat (pe_op op_cat (pe_lst (pa_cons (pe_tup (pa_cons (pe_str) (pa_cons (pe_str) (pa_cons (pe_int) pa_nil)))) pa_nil)) (pv 4)) (pe_lst (pa_cons (pe_tup (pa_cons (pe_str) (pa_cons (pe_str) (pa_cons (pe_int) pa_nil)))) pa_nil))) pa_nil)) pa_nil)))))
      (pss_nil))
      (pss_cons (ps_if (pt_cmpR op_eq (pv 2) (pe_int) (nomark _))
      (pss_one (ps_ret (pe_op op_catA (pe_slice sl_tupA (pv 1) (po_none) (po_some (pe_int))) (pe_tup (pa_cons (pe_callTy call_tuple_of rfl T.z_tuple (by decide +kernel) (pa_cons (pe_op op_cat (pv 4) (pe_lst (pa_cons (pe_tup (pa_cons (pe_str) (pa_cons (pe_str) (pa_cons (pv 3) pa_nil)))) pa_nil))) pa_nil)) pa_nil)))))
      (pss_nil))
      (pss_cons (ps_if (pt_cmpR op_eq (pv 2) (pe_int) (nomark _))
      (pss_one (ps_ret (pe_ix ix_list (pe_lst (pa_cons (pe_slice sl_tupA (pv 1) (po_none) (po_some (pe_int))) (pa_cons (pe_op op_catA (pv 1) (pe_tup (pa_cons (pe_int) pa_nil))) (pa_cons (pe_callTy call_list_of rfl T.z_list (by decide +kernel) (pa_cons (pv 1) pa_nil)) (pa_cons (pe_op op_catA (pe_slice sl_tupA (pv 1) (po_none) (po_some (pe_int))) (pe_tup (pa_cons (pv 4) pa_nil))) pa_nil))))) (pe_call (ok_law_draw T) (hr.mono (by omega)) rfl T.d_law_draw.g T.d_law_draw.F.kp T.d_law_draw.b .nil pass0 (pa_cons (pv 0) (pa_cons (pe_int) pa_nil))) (fun _ _ => rfl))))
      (pss_nil))
      (pss_one (ps_ret (pe_ix ix_list (pe_lst (pa_cons (pe_non) (pa_cons (pe_int) (pa_cons (pe_bl) (pa_cons (pe_str) (pa_cons (pe_tup (pa_nil)) (pa_cons (pe_lst (pa_nil)) (pa_cons (pe_tup (pa_cons (pe_int) (pa_cons (pe_int) (pa_cons (pe_int) pa_nil)))) (pa_cons (pe_tup (pa_cons (pe_int) (pa_cons (pe_int) (pa_cons (pe_int) (pa_cons (pe_int) pa_nil))))) pa_nil))))))))) (pe_call (ok_law_draw T) (hr.mono (by omega)) rfl T.d_law_draw.g T.d_law_draw.F.kp T.d_law_draw.b .nil pass0 (pa_cons (pv 0) (pa_cons (pe_int) pa_nil))) (fun _ _ => rfl))))))))))), ?_⟩
    obtain ⟨ap, t, xs, rfl, hS, hT, hA⟩ := dp_prices dp0
    clear dp0
    have hxl := dpAll_len hA
    rw [List.length_map] at hxl
    have g1 := fit_tr ok.t
    have g2 := fitAll_le (n := 2) g1 (by omega)
    have g3 := fitAll_le (n := 3) g1 (by omega)
    have g4 := fitAll_le (n := 4) g1 (by omega)
    have tl : Tb.length ≤ 1000 := by omega
    have tl2 : Tb.length + 1 ≤ 1000 := by omega
    have tl3 : Tb.length + 1 + 1 ≤ 1000 := by omega
    generalize hTT : Tb = T at *
    refine ⟨_, rfl, a, 6, rfl, ds0.e, by decide, by decide, fun kind K1 hkind b1 be1 => ?_⟩
    have ds1 := ds0.draw b1 be1
    refine ⟨1, rfl, sizeOk (Nat.le_of_ble_eq_true rfl), fun p2 np2 => ?_⟩
    have ds2 := ds1.new np2 (o := (.tup [.int 1]))
    have sm2 : Same Hd (upd Hd p2 (.tup [.int 1])) := same_new (ds1.frd np2)
    have e2 : (upd Hd p2 (.tup [.int 1])) p2 = some (.tup [.int 1]) := upd_same
    generalize upd K1 p2 (.tup [.int 1]) = K2 at ds2 ⊢
    generalize upd Hd p2 (.tup [.int 1]) = Kd2 at ds2 sm2 e2
    have hS := same_t sm2 hS
    have hT := same_t sm2 hT
    have hA := dps_same sm2 hA
    refine ⟨sizeOk (Nat.le_of_ble_eq_true rfl), fun p3 np3 => ?_⟩
    have ds3 := ds2.new np3 (o := (.lst [.int 1]))
    have sm3 : Same Kd2 (upd Kd2 p3 (.lst [.int 1])) := same_new (ds2.frd np3)
    have e3 : (upd Kd2 p3 (.lst [.int 1])) p3 = some (.lst [.int 1]) := upd_same
    generalize upd K2 p3 (.lst [.int 1]) = K3 at ds3 ⊢
    generalize upd Kd2 p3 (.lst [.int 1]) = Kd3 at ds3 sm3 e3
    have hS := same_t sm3 hS
    have hT := same_t sm3 hT
    have hA := dps_same sm3 hA
    have e2 := sm3 _ _ e2
    refine ⟨sizeOk (Nat.le_of_ble_eq_true rfl), fun p4 np4 => ?_⟩
    have ds4 := ds3.new np4 (o := (.lst [.int (-1), .bl true, .non, .str (PySem.Str.ofString "1"), .ref p2, .ref p3]))
    have sm4 : Same Kd3 (upd Kd3 p4 (.lst [.int (-1), .bl true, .non, .str (PySem.Str.ofString "1"), .ref p2, .ref p3])) := same_new (ds3.frd np4)
    have e4 : (upd Kd3 p4 (.lst [.int (-1), .bl true, .non, .str (PySem.Str.ofString "1"), .ref p2, .ref p3])) p4 = some (.lst [.int (-1), .bl true, .non, .str (PySem.Str.ofString "1"), .ref p2, .ref p3]) := upd_same
    generalize upd K3 p4 (.lst [.int (-1), .bl true, .non, .str (PySem.Str.ofString "1"), .ref p2, .ref p3]) = K4 at ds4 ⊢
    generalize upd Kd3 p4 (.lst [.int (-1), .bl true, .non, .str (PySem.Str.ofString "1"), .ref p2, .ref p3]) = Kd4 at ds4 sm4 e4
    have hS := same_t sm4 hS
    have hT := same_t sm4 hT
    have hA := dps_same sm4 hA
    have e2 := sm4 _ _ e2
    have e3 := sm4 _ _ e3
    have all : DpAll K Kd4 [.int (-1), .bl true, .non, .str (PySem.Str.ofString "1"), .ref p2, .ref p3] partsD := .cons (.int _) (.cons (.bl _) (.cons .non (.cons (.str _) (.cons (.tup (.inl (.inl e2)) (.cons (.int _) .nil)) (.cons (.lst (.inl (.inl e3)) (.cons (.int _) .nil)) .nil)))))
    have eW : K4 p4 = some (.lst [.int (-1), .bl true, .non, .str (PySem.Str.ofString "1"), .ref p2, .ref p3]) := ds4.g2 _ _ e4
    have nWa : p4 ≠ a := by
      intro z
      have := ds4.n
      rw [← z, e4] at this
      cases this
    refine ⟨_, rfl, a, 6, rfl, ds4.e, by decide, by decide, fun y K5 hy b5 be5 => ?_⟩
    have ds5 := ds4.draw b5 be5
    obtain ⟨px, hx⟩ : ∃ x, ([.int (-1), .bl true, .non, .str (PySem.Str.ofString "1"), .ref p2, .ref p3] : List V)[y]? = some x := ⟨_, List.getElem?_eq_getElem hy⟩
    obtain ⟨pd, hpd, dpx⟩ := dpAll_get all hx
    obtain ⟨k1, k2⟩ := partsD_no pd (List.mem_of_getElem? hpd)
    have k3 := fit_le (n := 3) k2 (by omega)
    have k5 := fit_le (n := 5) k2 (by omega)
    have w1 : True := trivial
    refine ⟨p4, _, _, px, rfl, rfl, .inl (.inl (b5 _ _ eW nWa)), atI_nat hx, ?_⟩
    refine ⟨_, rfl, ap, _, 3, .ref t, rfl, rfl, (same_t ds5.g2 hS), atI_nat (j := 3) rfl, t, xs, rfl, .inr (same_t ds5.g2 hT), fun p6 np6 => ?_⟩
    have ds6 := ds5.new np6 (o := (.lst xs))
    have sm6 : Same Kd4 (upd Kd4 p6 (.lst xs)) := same_new (ds5.frd np6)
    have e6 : (upd Kd4 p6 (.lst xs)) p6 = some (.lst xs) := upd_same
    generalize upd K5 p6 (.lst xs) = K6 at ds6 ⊢
    generalize upd Kd4 p6 (.lst xs) = Kd6 at ds6 sm6 e6
    have hS := same_t sm6 hS
    have hT := same_t sm6 hT
    have hA := dps_same sm6 hA
    have e2 := sm6 _ _ e2
    have e3 := sm6 _ _ e3
    have e4 := sm6 _ _ e4
    have dpx := dp_same sm6 dpx
    refine ⟨_, rfl, rfl, _, rfl, ?_⟩
    rw [show decide (V.int (kind : Int) = V.int 0) = decide (kind = 0) from dec_nat kind 0]
    by_cases q0 : kind = 0
    · rw [decide_eq_true q0]
      refine iteT ?_
      refine ⟨_, rfl, a, 3, rfl, ds6.e, by decide, by decide, fun at_ K7 hat_ b7 be7 => ?_⟩
      have ds7 := ds6.draw b7 be7
      have tup1 : True := trivial
      refine ⟨_, rfl, _, rfl, (at_ : Int), rfl, ap, _, rfl, (same_t ds7.g2 hS), (fun z => absurd z (not_whole (n := at_) (by show at_ < 4; omega))), fun _ p8 np8 => ?_⟩
      rw [cut_to _ at_]
      have ds8 := ds7.new np8 (o := (.tup (([.int d, .int m, .int c, .ref t] : List V).take at_)))
      have sm8 : Same Kd6 (upd Kd6 p8 (.tup (([.int d, .int m, .int c, .ref t] : List V).take at_))) := same_new (ds7.frd np8)
      have e8 : (upd Kd6 p8 (.tup (([.int d, .int m, .int c, .ref t] : List V).take at_))) p8 = some (.tup (([.int d, .int m, .int c, .ref t] : List V).take at_)) := upd_same
      generalize upd K7 p8 (.tup (([.int d, .int m, .int c, .ref t] : List V).take at_)) = K8 at ds8 ⊢
      generalize upd Kd6 p8 (.tup (([.int d, .int m, .int c, .ref t] : List V).take at_)) = Kd8 at ds8 sm8 e8
      have hS := same_t sm8 hS
      have hT := same_t sm8 hT
      have hA := dps_same sm8 hA
      have e2 := sm8 _ _ e2
      have e3 := sm8 _ _ e3
      have e4 := sm8 _ _ e4
      have dpx := dp_same sm8 dpx
      have e6 := sm8 _ _ e6
      refine ⟨_, rfl, sizeOk (Nat.le_of_ble_eq_true rfl), fun p9 np9 => ?_⟩
      have ds9 := ds8.new np9 (o := (.tup [px]))
      have sm9 : Same Kd8 (upd Kd8 p9 (.tup [px])) := same_new (ds8.frd np9)
      have e9 : (upd Kd8 p9 (.tup [px])) p9 = some (.tup [px]) := upd_same
      generalize upd K8 p9 (.tup [px]) = K9 at ds9 ⊢
      generalize upd Kd8 p9 (.tup [px]) = Kd9 at ds9 sm9 e9
      have hS := same_t sm9 hS
      have hT := same_t sm9 hT
      have hA := dps_same sm9 hA
      have e2 := sm9 _ _ e2
      have e3 := sm9 _ _ e3
      have e4 := sm9 _ _ e4
      have dpx := dp_same sm9 dpx
      have e6 := sm9 _ _ e6
      have e8 := sm9 _ _ e8
      have ex : at_ = 0 ∨ at_ = 1 ∨ at_ = 2 := by omega
      rcases ex with rfl | rfl | rfl
      · skip
        refine ⟨p8, p9, _, _, rfl, rfl, .inl (.inl (ds9.g2 _ _ e8)), .inl (.inl (ds9.g2 _ _ e9)), sizeOk (Nat.le_of_ble_eq_true rfl), (fun _ => ?_), (fun z => absurd rfl z), fun z => absurd rfl z⟩
        refine ⟨_, rfl, _, rfl, _, _, rfl, rfl, _, rfl, ap, _, rfl, (same_t ds9.g2 hS), (fun z => absurd z.1 (sIx_pos (by show 0 < 4; omega))), fun _ p10 np10 => ?_⟩
        rw [show cutV [.int d, .int m, .int c, .ref t] (some (((0 : Nat) : Int) + 1)) none = [.int m, .int c, .ref t] from cut_from _ 1]
        have ds10 := ds9.new np10 (o := (.tup [.int m, .int c, .ref t]))
        have sm10 : Same Kd9 (upd Kd9 p10 (.tup [.int m, .int c, .ref t])) := same_new (ds9.frd np10)
        have e10 : (upd Kd9 p10 (.tup [.int m, .int c, .ref t])) p10 = some (.tup [.int m, .int c, .ref t]) := upd_same
        generalize upd K9 p10 (.tup [.int m, .int c, .ref t]) = K10 at ds10 ⊢
        generalize upd Kd9 p10 (.tup [.int m, .int c, .ref t]) = Kd10 at ds10 sm10 e10
        have hS := same_t sm10 hS
        have hT := same_t sm10 hT
        have hA := dps_same sm10 hA
        have e2 := sm10 _ _ e2
        have e3 := sm10 _ _ e3
        have e4 := sm10 _ _ e4
        have dpx := dp_same sm10 dpx
        have e6 := sm10 _ _ e6
        have e8 := sm10 _ _ e8
        have e9 := sm10 _ _ e9
        refine ⟨p9, p10, _, _, rfl, rfl, .inl (.inl (ds10.g2 _ _ e9)), .inl (.inl (ds10.g2 _ _ e10)), sizeOk (Nat.le_of_ble_eq_true rfl), (fun z => absurd z (by simp)), (fun _ z => absurd z (by simp)), fun _ _ p11 np11 => ?_⟩
        have ds11 := ds10.new np11 (o := (.tup ([px] ++ [.int m, .int c, .ref t])))
        have sm11 : Same Kd10 (upd Kd10 p11 (.tup ([px] ++ [.int m, .int c, .ref t]))) := same_new (ds10.frd np11)
        have e11 : (upd Kd10 p11 (.tup ([px] ++ [.int m, .int c, .ref t]))) p11 = some (.tup ([px] ++ [.int m, .int c, .ref t])) := upd_same
        generalize upd K10 p11 (.tup ([px] ++ [.int m, .int c, .ref t])) = K11 at ds11 ⊢
        generalize upd Kd10 p11 (.tup ([px] ++ [.int m, .int c, .ref t])) = Kd11 at ds11 sm11 e11
        have hS := same_t sm11 hS
        have hT := same_t sm11 hT
        have hA := dps_same sm11 hA
        have e2 := sm11 _ _ e2
        have e3 := sm11 _ _ e3
        have e4 := sm11 _ _ e4
        have dpx := dp_same sm11 dpx
        have e6 := sm11 _ _ e6
        have e8 := sm11 _ _ e8
        have e9 := sm11 _ _ e9
        have e10 := sm11 _ _ e10
        exact q K11 Kd11 (.ref p11) (.tuple [pd, .int m, .int c, .tuple (T.map trD)]) ds11 (.tup (.inl (.inl e11)) (.cons (dpx) (.cons (.int _) (.cons (.int _) (.cons (.tup hT hA) (.nil)))))) (by rw [dPrices_4, k1]; simp) (by simp [fit, fitAll, fitAll_app, g1, g2, g3, g4, tl, tl2, tl3, w1, k3, k5, strs_le])
      · skip
        refine ⟨p8, p9, _, _, rfl, rfl, .inl (.inl (ds9.g2 _ _ e8)), .inl (.inl (ds9.g2 _ _ e9)), sizeOk (Nat.le_of_ble_eq_true rfl), (fun z => absurd z (by simp)), (fun _ z => absurd z (by simp)), fun _ _ p10 np10 => ?_⟩
        have ds10 := ds9.new np10 (o := (.tup (([.int d, .int m, .int c, .ref t] : List V).take 1 ++ [px])))
        have sm10 : Same Kd9 (upd Kd9 p10 (.tup (([.int d, .int m, .int c, .ref t] : List V).take 1 ++ [px]))) := same_new (ds9.frd np10)
        have e10 : (upd Kd9 p10 (.tup (([.int d, .int m, .int c, .ref t] : List V).take 1 ++ [px]))) p10 = some (.tup (([.int d, .int m, .int c, .ref t] : List V).take 1 ++ [px])) := upd_same
        generalize upd K9 p10 (.tup (([.int d, .int m, .int c, .ref t] : List V).take 1 ++ [px])) = K10 at ds10 ⊢
        generalize upd Kd9 p10 (.tup (([.int d, .int m, .int c, .ref t] : List V).take 1 ++ [px])) = Kd10 at ds10 sm10 e10
        have hS := same_t sm10 hS
        have hT := same_t sm10 hT
        have hA := dps_same sm10 hA
        have e2 := sm10 _ _ e2
        have e3 := sm10 _ _ e3
        have e4 := sm10 _ _ e4
        have dpx := dp_same sm10 dpx
        have e6 := sm10 _ _ e6
        have e8 := sm10 _ _ e8
        have e9 := sm10 _ _ e9
        refine ⟨_, rfl, _, rfl, _, _, rfl, rfl, _, rfl, ap, _, rfl, (same_t ds10.g2 hS), (fun z => absurd z.1 (sIx_pos (by show 0 < 4; omega))), fun _ p11 np11 => ?_⟩
        rw [show cutV [.int d, .int m, .int c, .ref t] (some (((1 : Nat) : Int) + 1)) none = [.int c, .ref t] from cut_from _ 2]
        have ds11 := ds10.new np11 (o := (.tup [.int c, .ref t]))
        have sm11 : Same Kd10 (upd Kd10 p11 (.tup [.int c, .ref t])) := same_new (ds10.frd np11)
        have e11 : (upd Kd10 p11 (.tup [.int c, .ref t])) p11 = some (.tup [.int c, .ref t]) := upd_same
        generalize upd K10 p11 (.tup [.int c, .ref t]) = K11 at ds11 ⊢
        generalize upd Kd10 p11 (.tup [.int c, .ref t]) = Kd11 at ds11 sm11 e11
        have hS := same_t sm11 hS
        have hT := same_t sm11 hT
        have hA := dps_same sm11 hA
        have e2 := sm11 _ _ e2
        have e3 := sm11 _ _ e3
        have e4 := sm11 _ _ e4
        have dpx := dp_same sm11 dpx
        have e6 := sm11 _ _ e6
        have e8 := sm11 _ _ e8
        have e9 := sm11 _ _ e9
        have e10 := sm11 _ _ e10
        refine ⟨p10, p11, _, _, rfl, rfl, .inl (.inl (ds11.g2 _ _ e10)), .inl (.inl (ds11.g2 _ _ e11)), sizeOk (Nat.le_of_ble_eq_true rfl), (fun z => absurd z (by simp)), (fun _ z => absurd z (by simp)), fun _ _ p12 np12 => ?_⟩
        have ds12 := ds11.new np12 (o := (.tup ((([.int d, .int m, .int c, .ref t] : List V).take 1 ++ [px]) ++ [.int c, .ref t])))
        have sm12 : Same Kd11 (upd Kd11 p12 (.tup ((([.int d, .int m, .int c, .ref t] : List V).take 1 ++ [px]) ++ [.int c, .ref t]))) := same_new (ds11.frd np12)
        have e12 : (upd Kd11 p12 (.tup ((([.int d, .int m, .int c, .ref t] : List V).take 1 ++ [px]) ++ [.int c, .ref t]))) p12 = some (.tup ((([.int d, .int m, .int c, .ref t] : List V).take 1 ++ [px]) ++ [.int c, .ref t])) := upd_same
        generalize upd K11 p12 (.tup ((([.int d, .int m, .int c, .ref t] : List V).take 1 ++ [px]) ++ [.int c, .ref t])) = K12 at ds12 ⊢
        generalize upd Kd11 p12 (.tup ((([.int d, .int m, .int c, .ref t] : List V).take 1 ++ [px]) ++ [.int c, .ref t])) = Kd12 at ds12 sm12 e12
        have hS := same_t sm12 hS
        have hT := same_t sm12 hT
        have hA := dps_same sm12 hA
        have e2 := sm12 _ _ e2
        have e3 := sm12 _ _ e3
        have e4 := sm12 _ _ e4
        have dpx := dp_same sm12 dpx
        have e6 := sm12 _ _ e6
        have e8 := sm12 _ _ e8
        have e9 := sm12 _ _ e9
        have e10 := sm12 _ _ e10
        have e11 := sm12 _ _ e11
        exact q K12 Kd12 (.ref p12) (.tuple [.int d, pd, .int c, .tuple (T.map trD)]) ds12 (.tup (.inl (.inl e12)) (.cons (.int _) (.cons (dpx) (.cons (.int _) (.cons (.tup hT hA) (.nil)))))) (by rw [dPrices_4, k1]; simp) (by simp [fit, fitAll, fitAll_app, g1, g2, g3, g4, tl, tl2, tl3, w1, k3, k5, strs_le])
      · skip
        refine ⟨p8, p9, _, _, rfl, rfl, .inl (.inl (ds9.g2 _ _ e8)), .inl (.inl (ds9.g2 _ _ e9)), sizeOk (Nat.le_of_ble_eq_true rfl), (fun z => absurd z (by simp)), (fun _ z => absurd z (by simp)), fun _ _ p10 np10 => ?_⟩
        have ds10 := ds9.new np10 (o := (.tup (([.int d, .int m, .int c, .ref t] : List V).take 2 ++ [px])))
        have sm10 : Same Kd9 (upd Kd9 p10 (.tup (([.int d, .int m, .int c, .ref t] : List V).take 2 ++ [px]))) := same_new (ds9.frd np10)
        have e10 : (upd Kd9 p10 (.tup (([.int d, .int m, .int c, .ref t] : List V).take 2 ++ [px]))) p10 = some (.tup (([.int d, .int m, .int c, .ref t] : List V).take 2 ++ [px])) := upd_same
        generalize upd K9 p10 (.tup (([.int d, .int m, .int c, .ref t] : List V).take 2 ++ [px])) = K10 at ds10 ⊢
        generalize upd Kd9 p10 (.tup (([.int d, .int m, .int c, .ref t] : List V).take 2 ++ [px])) = Kd10 at ds10 sm10 e10
        have hS := same_t sm10 hS
        have hT := same_t sm10 hT
        have hA := dps_same sm10 hA
        have e2 := sm10 _ _ e2
        have e3 := sm10 _ _ e3
        have e4 := sm10 _ _ e4
        have dpx := dp_same sm10 dpx
        have e6 := sm10 _ _ e6
        have e8 := sm10 _ _ e8
        have e9 := sm10 _ _ e9
        refine ⟨_, rfl, _, rfl, _, _, rfl, rfl, _, rfl, ap, _, rfl, (same_t ds10.g2 hS), (fun z => absurd z.1 (sIx_pos (by show 0 < 4; omega))), fun _ p11 np11 => ?_⟩
        rw [show cutV [.int d, .int m, .int c, .ref t] (some (((2 : Nat) : Int) + 1)) none = [.ref t] from cut_from _ 3]
        have ds11 := ds10.new np11 (o := (.tup [.ref t]))
        have sm11 : Same Kd10 (upd Kd10 p11 (.tup [.ref t])) := same_new (ds10.frd np11)
        have e11 : (upd Kd10 p11 (.tup [.ref t])) p11 = some (.tup [.ref t]) := upd_same
        generalize upd K10 p11 (.tup [.ref t]) = K11 at ds11 ⊢
        generalize upd Kd10 p11 (.tup [.ref t]) = Kd11 at ds11 sm11 e11
        have hS := same_t sm11 hS
        have hT := same_t sm11 hT
        have hA := dps_same sm11 hA
        have e2 := sm11 _ _ e2
        have e3 := sm11 _ _ e3
        have e4 := sm11 _ _ e4
        have dpx := dp_same sm11 dpx
        have e6 := sm11 _ _ e6
        have e8 := sm11 _ _ e8
        have e9 := sm11 _ _ e9
        have e10 := sm11 _ _ e10
        refine ⟨p10, p11, _, _, rfl, rfl, .inl (.inl (ds11.g2 _ _ e10)), .inl (.inl (ds11.g2 _ _ e11)), sizeOk (Nat.le_of_ble_eq_true rfl), (fun z => absurd z (by simp)), (fun _ z => absurd z (by simp)), fun _ _ p12 np12 => ?_⟩
        have ds12 := ds11.new np12 (o := (.tup ((([.int d, .int m, .int c, .ref t] : List V).take 2 ++ [px]) ++ [.ref t])))
        have sm12 : Same Kd11 (upd Kd11 p12 (.tup ((([.int d, .int m, .int c, .ref t] : List V).take 2 ++ [px]) ++ [.ref t]))) := same_new (ds11.frd np12)
        have e12 : (upd Kd11 p12 (.tup ((([.int d, .int m, .int c, .ref t] : List V).take 2 ++ [px]) ++ [.ref t]))) p12 = some (.tup ((([.int d, .int m, .int c, .ref t] : List V).take 2 ++ [px]) ++ [.ref t])) := upd_same
        generalize upd K11 p12 (.tup ((([.int d, .int m, .int c, .ref t] : List V).take 2 ++ [px]) ++ [.ref t])) = K12 at ds12 ⊢
        generalize upd Kd11 p12 (.tup ((([.int d, .int m, .int c, .ref t] : List V).take 2 ++ [px]) ++ [.ref t])) = Kd12 at ds12 sm12 e12
        have hS := same_t sm12 hS
        have hT := same_t sm12 hT
        have hA := dps_same sm12 hA
        have e2 := sm12 _ _ e2
        have e3 := sm12 _ _ e3
        have e4 := sm12 _ _ e4
        have dpx := dp_same sm12 dpx
        have e6 := sm12 _ _ e6
        have e8 := sm12 _ _ e8
        have e9 := sm12 _ _ e9
        have e10 := sm12 _ _ e10
        have e11 := sm12 _ _ e11
        exact q K12 Kd12 (.ref p12) (.tuple [.int d, .int m, pd, .tuple (T.map trD)]) ds12 (.tup (.inl (.inl e12)) (.cons (.int _) (.cons (.int _) (.cons (dpx) (.cons (.tup hT hA) (.nil)))))) (by rw [dPrices_4, k1]; simp) (by simp [fit, fitAll, fitAll_app, g1, g2, g3, g4, tl, tl2, tl3, w1, k3, k5, strs_le])
    rw [decide_eq_false q0]
    refine iteF ?_
    refine ⟨_, rfl, rfl, _, rfl, ?_⟩
    rw [show decide (V.int (kind : Int) = V.int 1) = decide (kind = 1) from dec_nat kind 1]
    by_cases q1 : kind = 1
    · rw [decide_eq_true q1]
      refine iteT ?_
      refine ⟨_, rfl, 3, rfl, ap, _, rfl, (same_t ds6.g2 hS), (fun z => absurd z (not_whole (n := 3) (by show 3 < 4; omega))), fun _ p7 np7 => ?_⟩
      rw [show cutV [.int d, .int m, .int c, .ref t] none (some 3) = [.int d, .int m, .int c] from cut_to _ 3]
      have ds7 := ds6.new np7 (o := (.tup [.int d, .int m, .int c]))
      have sm7 : Same Kd6 (upd Kd6 p7 (.tup [.int d, .int m, .int c])) := same_new (ds6.frd np7)
      have e7 : (upd Kd6 p7 (.tup [.int d, .int m, .int c])) p7 = some (.tup [.int d, .int m, .int c]) := upd_same
      generalize upd K6 p7 (.tup [.int d, .int m, .int c]) = K7 at ds7 ⊢
      generalize upd Kd6 p7 (.tup [.int d, .int m, .int c]) = Kd7 at ds7 sm7 e7
      have hS := same_t sm7 hS
      have hT := same_t sm7 hT
      have hA := dps_same sm7 hA
      have e2 := sm7 _ _ e2
      have e3 := sm7 _ _ e3
      have e4 := sm7 _ _ e4
      have dpx := dp_same sm7 dpx
      have e6 := sm7 _ _ e6
      refine ⟨_, rfl, sizeOk (Nat.le_of_ble_eq_true rfl), fun p8 np8 => ?_⟩
      have ds8 := ds7.new np8 (o := (.tup [.str (PySem.Str.ofString "abc"), .str (PySem.Str.ofString "abc"), .int 1]))
      have sm8 : Same Kd7 (upd Kd7 p8 (.tup [.str (PySem.Str.ofString "abc"), .str (PySem.Str.ofString "abc"), .int 1])) := same_new (ds7.frd np8)
      have e8 : (upd Kd7 p8 (.tup [.str (PySem.Str.ofString "abc"), .str (PySem.Str.ofString "abc"), .int 1])) p8 = some (.tup [.str (PySem.Str.ofString "abc"), .str (PySem.Str.ofString "abc"), .int 1]) := upd_same
      generalize upd K7 p8 (.tup [.str (PySem.Str.ofString "abc"), .str (PySem.Str.ofString "abc"), .int 1]) = K8 at ds8 ⊢
      generalize upd Kd7 p8 (.tup [.str (PySem.Str.ofString "abc"), .str (PySem.Str.ofString "abc"), .int 1]) = Kd8 at ds8 sm8 e8
      have hS := same_t sm8 hS
      have hT := same_t sm8 hT
      have hA := dps_same sm8 hA
      have e2 := sm8 _ _ e2
      have e3 := sm8 _ _ e3
      have e4 := sm8 _ _ e4
      have dpx := dp_same sm8 dpx
      have e6 := sm8 _ _ e6
      have e7 := sm8 _ _ e7
      refine ⟨sizeOk (Nat.le_of_ble_eq_true rfl), fun p9 np9 => ?_⟩
      have ds9 := ds8.new np9 (o := (.lst [.ref p8]))
      have sm9 : Same Kd8 (upd Kd8 p9 (.lst [.ref p8])) := same_new (ds8.frd np9)
      have e9 : (upd Kd8 p9 (.lst [.ref p8])) p9 = some (.lst [.ref p8]) := upd_same
      generalize upd K8 p9 (.lst [.ref p8]) = K9 at ds9 ⊢
      generalize upd Kd8 p9 (.lst [.ref p8]) = Kd9 at ds9 sm9 e9
      have hS := same_t sm9 hS
      have hT := same_t sm9 hT
      have hA := dps_same sm9 hA
      have e2 := sm9 _ _ e2
      have e3 := sm9 _ _ e3
      have e4 := sm9 _ _ e4
      have dpx := dp_same sm9 dpx
      have e6 := sm9 _ _ e6
      have e7 := sm9 _ _ e7
      have e8 := sm9 _ _ e8
      refine ⟨p6, p9, _, _, rfl, rfl, ds9.g2 _ _ e6, ds9.g2 _ _ e9, sz_of (by simp only [List.length_append, List.length_cons, List.length_nil]; omega), fun p10 np10 => ?_⟩
      have ds10 := ds9.new np10 (o := (.lst (xs ++ [.ref p8])))
      have sm10 : Same Kd9 (upd Kd9 p10 (.lst (xs ++ [.ref p8]))) := same_new (ds9.frd np10)
      have e10 : (upd Kd9 p10 (.lst (xs ++ [.ref p8]))) p10 = some (.lst (xs ++ [.ref p8])) := upd_same
      generalize upd K9 p10 (.lst (xs ++ [.ref p8])) = K10 at ds10 ⊢
      generalize upd Kd9 p10 (.lst (xs ++ [.ref p8])) = Kd10 at ds10 sm10 e10
      have hS := same_t sm10 hS
      have hT := same_t sm10 hT
      have hA := dps_same sm10 hA
      have e2 := sm10 _ _ e2
      have e3 := sm10 _ _ e3
      have e4 := sm10 _ _ e4
      have dpx := dp_same sm10 dpx
      have e6 := sm10 _ _ e6
      have e7 := sm10 _ _ e7
      have e8 := sm10 _ _ e8
      have e9 := sm10 _ _ e9
      refine ⟨p10, _, rfl, .inl ⟨.inl (.inl (ds10.g2 _ _ e10)), fun p11 np11 => ?_⟩⟩
      have ds11 := ds10.new np11 (o := (.tup (xs ++ [.ref p8])))
      have sm11 : Same Kd10 (upd Kd10 p11 (.tup (xs ++ [.ref p8]))) := same_new (ds10.frd np11)
      have e11 : (upd Kd10 p11 (.tup (xs ++ [.ref p8]))) p11 = some (.tup (xs ++ [.ref p8])) := upd_same
      generalize upd K10 p11 (.tup (xs ++ [.ref p8])) = K11 at ds11 ⊢
      generalize upd Kd10 p11 (.tup (xs ++ [.ref p8])) = Kd11 at ds11 sm11 e11
      have hS := same_t sm11 hS
      have hT := same_t sm11 hT
      have hA := dps_same sm11 hA
      have e2 := sm11 _ _ e2
      have e3 := sm11 _ _ e3
      have e4 := sm11 _ _ e4
      have dpx := dp_same sm11 dpx
      have e6 := sm11 _ _ e6
      have e7 := sm11 _ _ e7
      have e8 := sm11 _ _ e8
      have e9 := sm11 _ _ e9
      have e10 := sm11 _ _ e10
      refine ⟨sizeOk (Nat.le_of_ble_eq_true rfl), fun p12 np12 => ?_⟩
      have ds12 := ds11.new np12 (o := (.tup [.ref p11]))
      have sm12 : Same Kd11 (upd Kd11 p12 (.tup [.ref p11])) := same_new (ds11.frd np12)
      have e12 : (upd Kd11 p12 (.tup [.ref p11])) p12 = some (.tup [.ref p11]) := upd_same
      generalize upd K11 p12 (.tup [.ref p11]) = K12 at ds12 ⊢
      generalize upd Kd11 p12 (.tup [.ref p11]) = Kd12 at ds12 sm12 e12
      have hS := same_t sm12 hS
      have hT := same_t sm12 hT
      have hA := dps_same sm12 hA
      have e2 := sm12 _ _ e2
      have e3 := sm12 _ _ e3
      have e4 := sm12 _ _ e4
      have dpx := dp_same sm12 dpx
      have e6 := sm12 _ _ e6
      have e7 := sm12 _ _ e7
      have e8 := sm12 _ _ e8
      have e9 := sm12 _ _ e9
      have e10 := sm12 _ _ e10
      have e11 := sm12 _ _ e11
      refine ⟨p7, p12, _, _, rfl, rfl, .inl (.inl (ds12.g2 _ _ e7)), .inl (.inl (ds12.g2 _ _ e12)), sizeOk (Nat.le_of_ble_eq_true rfl), (fun z => absurd z (by simp)), (fun _ z => absurd z (by simp)), fun _ _ p13 np13 => ?_⟩
      have ds13 := ds12.new np13 (o := (.tup ([.int d, .int m, .int c] ++ [.ref p11])))
      have sm13 : Same Kd12 (upd Kd12 p13 (.tup ([.int d, .int m, .int c] ++ [.ref p11]))) := same_new (ds12.frd np13)
      have e13 : (upd Kd12 p13 (.tup ([.int d, .int m, .int c] ++ [.ref p11]))) p13 = some (.tup ([.int d, .int m, .int c] ++ [.ref p11])) := upd_same
      generalize upd K12 p13 (.tup ([.int d, .int m, .int c] ++ [.ref p11])) = K13 at ds13 ⊢
      generalize upd Kd12 p13 (.tup ([.int d, .int m, .int c] ++ [.ref p11])) = Kd13 at ds13 sm13 e13
      have hS := same_t sm13 hS
      have hT := same_t sm13 hT
      have hA := dps_same sm13 hA
      have e2 := sm13 _ _ e2
      have e3 := sm13 _ _ e3
      have e4 := sm13 _ _ e4
      have dpx := dp_same sm13 dpx
      have e6 := sm13 _ _ e6
      have e7 := sm13 _ _ e7
      have e8 := sm13 _ _ e8
      have e9 := sm13 _ _ e9
      have e10 := sm13 _ _ e10
      have e11 := sm13 _ _ e11
      have e12 := sm13 _ _ e12
      exact q K13 Kd13 (.ref p13) (.tuple [.int d, .int m, .int c, .tuple (T.map trD ++ [.tuple [.str (PySem.Str.ofString "abc"), .str (PySem.Str.ofString "abc"), .int 1]])]) ds13 (.tup (.inl (.inl e13)) (.cons (.int _) (.cons (.int _) (.cons (.int _) (.cons (.tup (.inl (.inl e11)) (dpAll_app hA (DpAll.cons (.tup (.inl (.inl e8)) (.cons (.str _) (.cons (.str _) (.cons (.int _) .nil)))) .nil))) .nil))))) (by rw [dPrices_4]; show (_ && trOk [] _) = false; rw [trOk_last same_abc, Bool.and_false]) (by simp [fit, fitAll, fitAll_app, g1, g2, g3, g4, tl, tl2, tl3, w1, k3, k5, strs_le])
    rw [decide_eq_false q1]
    refine iteF ?_
    refine ⟨_, rfl, rfl, _, rfl, ?_⟩
    rw [show decide (V.int (kind : Int) = V.int 2) = decide (kind = 2) from dec_nat kind 2]
    by_cases q2 : kind = 2
    · rw [decide_eq_true q2]
      refine iteT ?_
      refine ⟨_, rfl, 3, rfl, ap, _, rfl, (same_t ds6.g2 hS), (fun z => absurd z (not_whole (n := 3) (by show 3 < 4; omega))), fun _ p7 np7 => ?_⟩
      rw [show cutV [.int d, .int m, .int c, .ref t] none (some 3) = [.int d, .int m, .int c] from cut_to _ 3]
      have ds7 := ds6.new np7 (o := (.tup [.int d, .int m, .int c]))
      have sm7 : Same Kd6 (upd Kd6 p7 (.tup [.int d, .int m, .int c])) := same_new (ds6.frd np7)
      have e7 : (upd Kd6 p7 (.tup [.int d, .int m, .int c])) p7 = some (.tup [.int d, .int m, .int c]) := upd_same
      generalize upd K6 p7 (.tup [.int d, .int m, .int c]) = K7 at ds7 ⊢
      generalize upd Kd6 p7 (.tup [.int d, .int m, .int c]) = Kd7 at ds7 sm7 e7
      have hS := same_t sm7 hS
      have hT := same_t sm7 hT
      have hA := dps_same sm7 hA
      have e2 := sm7 _ _ e2
      have e3 := sm7 _ _ e3
      have e4 := sm7 _ _ e4
      have dpx := dp_same sm7 dpx
      have e6 := sm7 _ _ e6
      refine ⟨sizeOk (Nat.le_of_ble_eq_true rfl), fun p8 np8 => ?_⟩
      have ds8 := ds7.new np8 (o := (.tup [.str (PySem.Str.ofString "a"), .str (PySem.Str.ofString "b"), .int 1]))
      have sm8 : Same Kd7 (upd Kd7 p8 (.tup [.str (PySem.Str.ofString "a"), .str (PySem.Str.ofString "b"), .int 1])) := same_new (ds7.frd np8)
      have e8 : (upd Kd7 p8 (.tup [.str (PySem.Str.ofString "a"), .str (PySem.Str.ofString "b"), .int 1])) p8 = some (.tup [.str (PySem.Str.ofString "a"), .str (PySem.Str.ofString "b"), .int 1]) := upd_same
      generalize upd K7 p8 (.tup [.str (PySem.Str.ofString "a"), .str (PySem.Str.ofString "b"), .int 1]) = K8 at ds8 ⊢
      generalize upd Kd7 p8 (.tup [.str (PySem.Str.ofString "a"), .str (PySem.Str.ofString "b"), .int 1]) = Kd8 at ds8 sm8 e8
      have hS := same_t sm8 hS
      have hT := same_t sm8 hT
      have hA := dps_same sm8 hA
      have e2 := sm8 _ _ e2
      have e3 := sm8 _ _ e3
      have e4 := sm8 _ _ e4
      have dpx := dp_same sm8 dpx
      have e6 := sm8 _ _ e6
      have e7 := sm8 _ _ e7
      refine ⟨sizeOk (Nat.le_of_ble_eq_true rfl), fun p9 np9 => ?_⟩
      have ds9 := ds8.new np9 (o := (.lst [.ref p8]))
      have sm9 : Same Kd8 (upd Kd8 p9 (.lst [.ref p8])) := same_new (ds8.frd np9)
      have e9 : (upd Kd8 p9 (.lst [.ref p8])) p9 = some (.lst [.ref p8]) := upd_same
      generalize upd K8 p9 (.lst [.ref p8]) = K9 at ds9 ⊢
      generalize upd Kd8 p9 (.lst [.ref p8]) = Kd9 at ds9 sm9 e9
      have hS := same_t sm9 hS
      have hT := same_t sm9 hT
      have hA := dps_same sm9 hA
      have e2 := sm9 _ _ e2
      have e3 := sm9 _ _ e3
      have e4 := sm9 _ _ e4
      have dpx := dp_same sm9 dpx
      have e6 := sm9 _ _ e6
      have e7 := sm9 _ _ e7
      have e8 := sm9 _ _ e8
      refine ⟨_, rfl, p9, p6, _, _, rfl, rfl, ds9.g2 _ _ e9, ds9.g2 _ _ e6, sz_of (by show 1 + xs.length ≤ _; omega), fun p10 np10 => ?_⟩
      have ds10 := ds9.new np10 (o := (.lst ([.ref p8] ++ xs)))
      have sm10 : Same Kd9 (upd Kd9 p10 (.lst ([.ref p8] ++ xs))) := same_new (ds9.frd np10)
      have e10 : (upd Kd9 p10 (.lst ([.ref p8] ++ xs))) p10 = some (.lst ([.ref p8] ++ xs)) := upd_same
      generalize upd K9 p10 (.lst ([.ref p8] ++ xs)) = K10 at ds10 ⊢
      generalize upd Kd9 p10 (.lst ([.ref p8] ++ xs)) = Kd10 at ds10 sm10 e10
      have hS := same_t sm10 hS
      have hT := same_t sm10 hT
      have hA := dps_same sm10 hA
      have e2 := sm10 _ _ e2
      have e3 := sm10 _ _ e3
      have e4 := sm10 _ _ e4
      have dpx := dp_same sm10 dpx
      have e6 := sm10 _ _ e6
      have e7 := sm10 _ _ e7
      have e8 := sm10 _ _ e8
      have e9 := sm10 _ _ e9
      refine ⟨sizeOk (Nat.le_of_ble_eq_true rfl), fun p11 np11 => ?_⟩
      have ds11 := ds10.new np11 (o := (.tup [.str (PySem.Str.ofString "a"), .str (PySem.Str.ofString "b"), .int 2]))
      have sm11 : Same Kd10 (upd Kd10 p11 (.tup [.str (PySem.Str.ofString "a"), .str (PySem.Str.ofString "b"), .int 2])) := same_new (ds10.frd np11)
      have e11 : (upd Kd10 p11 (.tup [.str (PySem.Str.ofString "a"), .str (PySem.Str.ofString "b"), .int 2])) p11 = some (.tup [.str (PySem.Str.ofString "a"), .str (PySem.Str.ofString "b"), .int 2]) := upd_same
      generalize upd K10 p11 (.tup [.str (PySem.Str.ofString "a"), .str (PySem.Str.ofString "b"), .int 2]) = K11 at ds11 ⊢
      generalize upd Kd10 p11 (.tup [.str (PySem.Str.ofString "a"), .str (PySem.Str.ofString "b"), .int 2]) = Kd11 at ds11 sm11 e11
      have hS := same_t sm11 hS
      have hT := same_t sm11 hT
      have hA := dps_same sm11 hA
      have e2 := sm11 _ _ e2
      have e3 := sm11 _ _ e3
      have e4 := sm11 _ _ e4
      have dpx := dp_same sm11 dpx
      have e6 := sm11 _ _ e6
      have e7 := sm11 _ _ e7
      have e8 := sm11 _ _ e8
      have e9 := sm11 _ _ e9
      have e10 := sm11 _ _ e10
      refine ⟨sizeOk (Nat.le_of_ble_eq_true rfl), fun p12 np12 => ?_⟩
      have ds12 := ds11.new np12 (o := (.lst [.ref p11]))
      have sm12 : Same Kd11 (upd Kd11 p12 (.lst [.ref p11])) := same_new (ds11.frd np12)
      have e12 : (upd Kd11 p12 (.lst [.ref p11])) p12 = some (.lst [.ref p11]) := upd_same
      generalize upd K11 p12 (.lst [.ref p11]) = K12 at ds12 ⊢
      generalize upd Kd11 p12 (.lst [.ref p11]) = Kd12 at ds12 sm12 e12
      have hS := same_t sm12 hS
      have hT := same_t sm12 hT
      have hA := dps_same sm12 hA
      have e2 := sm12 _ _ e2
      have e3 := sm12 _ _ e3
      have e4 := sm12 _ _ e4
      have dpx := dp_same sm12 dpx
      have e6 := sm12 _ _ e6
      have e7 := sm12 _ _ e7
      have e8 := sm12 _ _ e8
      have e9 := sm12 _ _ e9
      have e10 := sm12 _ _ e10
      have e11 := sm12 _ _ e11
      refine ⟨p10, p12, _, _, rfl, rfl, ds12.g2 _ _ e10, ds12.g2 _ _ e12, sz_of (by simp only [List.length_append, List.length_cons, List.length_nil]; omega), fun p13 np13 => ?_⟩
      have ds13 := ds12.new np13 (o := (.lst (([.ref p8] ++ xs) ++ [.ref p11])))
      have sm13 : Same Kd12 (upd Kd12 p13 (.lst (([.ref p8] ++ xs) ++ [.ref p11]))) := same_new (ds12.frd np13)
      have e13 : (upd Kd12 p13 (.lst (([.ref p8] ++ xs) ++ [.ref p11]))) p13 = some (.lst (([.ref p8] ++ xs) ++ [.ref p11])) := upd_same
      generalize upd K12 p13 (.lst (([.ref p8] ++ xs) ++ [.ref p11])) = K13 at ds13 ⊢
      generalize upd Kd12 p13 (.lst (([.ref p8] ++ xs) ++ [.ref p11])) = Kd13 at ds13 sm13 e13
      have hS := same_t sm13 hS
      have hT := same_t sm13 hT
      have hA := dps_same sm13 hA
      have e2 := sm13 _ _ e2
      have e3 := sm13 _ _ e3
      have e4 := sm13 _ _ e4
      have dpx := dp_same sm13 dpx
      have e6 := sm13 _ _ e6
      have e7 := sm13 _ _ e7
      have e8 := sm13 _ _ e8
      have e9 := sm13 _ _ e9
      have e10 := sm13 _ _ e10
      have e11 := sm13 _ _ e11
      have e12 := sm13 _ _ e12
      refine ⟨p13, _, rfl, .inl ⟨.inl (.inl (ds13.g2 _ _ e13)), fun p14 np14 => ?_⟩⟩
      have ds14 := ds13.new np14 (o := (.tup (([.ref p8] ++ xs) ++ [.ref p11])))
      have sm14 : Same Kd13 (upd Kd13 p14 (.tup (([.ref p8] ++ xs) ++ [.ref p11]))) := same_new (ds13.frd np14)
      have e14 : (upd Kd13 p14 (.tup (([.ref p8] ++ xs) ++ [.ref p11]))) p14 = some (.tup (([.ref p8] ++ xs) ++ [.ref p11])) := upd_same
      generalize upd K13 p14 (.tup (([.ref p8] ++ xs) ++ [.ref p11])) = K14 at ds14 ⊢
      generalize upd Kd13 p14 (.tup (([.ref p8] ++ xs) ++ [.ref p11])) = Kd14 at ds14 sm14 e14
      have hS := same_t sm14 hS
      have hT := same_t sm14 hT
      have hA := dps_same sm14 hA
      have e2 := sm14 _ _ e2
      have e3 := sm14 _ _ e3
      have e4 := sm14 _ _ e4
      have dpx := dp_same sm14 dpx
      have e6 := sm14 _ _ e6
      have e7 := sm14 _ _ e7
      have e8 := sm14 _ _ e8
      have e9 := sm14 _ _ e9
      have e10 := sm14 _ _ e10
      have e11 := sm14 _ _ e11
      have e12 := sm14 _ _ e12
      have e13 := sm14 _ _ e13
      refine ⟨sizeOk (Nat.le_of_ble_eq_true rfl), fun p15 np15 => ?_⟩
      have ds15 := ds14.new np15 (o := (.tup [.ref p14]))
      have sm15 : Same Kd14 (upd Kd14 p15 (.tup [.ref p14])) := same_new (ds14.frd np15)
      have e15 : (upd Kd14 p15 (.tup [.ref p14])) p15 = some (.tup [.ref p14]) := upd_same
      generalize upd K14 p15 (.tup [.ref p14]) = K15 at ds15 ⊢
      generalize upd Kd14 p15 (.tup [.ref p14]) = Kd15 at ds15 sm15 e15
      have hS := same_t sm15 hS
      have hT := same_t sm15 hT
      have hA := dps_same sm15 hA
      have e2 := sm15 _ _ e2
      have e3 := sm15 _ _ e3
      have e4 := sm15 _ _ e4
      have dpx := dp_same sm15 dpx
      have e6 := sm15 _ _ e6
      have e7 := sm15 _ _ e7
      have e8 := sm15 _ _ e8
      have e9 := sm15 _ _ e9
      have e10 := sm15 _ _ e10
      have e11 := sm15 _ _ e11
      have e12 := sm15 _ _ e12
      have e13 := sm15 _ _ e13
      have e14 := sm15 _ _ e14
      refine ⟨p7, p15, _, _, rfl, rfl, .inl (.inl (ds15.g2 _ _ e7)), .inl (.inl (ds15.g2 _ _ e15)), sizeOk (Nat.le_of_ble_eq_true rfl), (fun z => absurd z (by simp)), (fun _ z => absurd z (by simp)), fun _ _ p16 np16 => ?_⟩
      have ds16 := ds15.new np16 (o := (.tup ([.int d, .int m, .int c] ++ [.ref p14])))
      have sm16 : Same Kd15 (upd Kd15 p16 (.tup ([.int d, .int m, .int c] ++ [.ref p14]))) := same_new (ds15.frd np16)
      have e16 : (upd Kd15 p16 (.tup ([.int d, .int m, .int c] ++ [.ref p14]))) p16 = some (.tup ([.int d, .int m, .int c] ++ [.ref p14])) := upd_same
      generalize upd K15 p16 (.tup ([.int d, .int m, .int c] ++ [.ref p14])) = K16 at ds16 ⊢
      generalize upd Kd15 p16 (.tup ([.int d, .int m, .int c] ++ [.ref p14])) = Kd16 at ds16 sm16 e16
      have hS := same_t sm16 hS
      have hT := same_t sm16 hT
      have hA := dps_same sm16 hA
      have e2 := sm16 _ _ e2
      have e3 := sm16 _ _ e3
      have e4 := sm16 _ _ e4
      have dpx := dp_same sm16 dpx
      have e6 := sm16 _ _ e6
      have e7 := sm16 _ _ e7
      have e8 := sm16 _ _ e8
      have e9 := sm16 _ _ e9
      have e10 := sm16 _ _ e10
      have e11 := sm16 _ _ e11
      have e12 := sm16 _ _ e12
      have e13 := sm16 _ _ e13
      have e14 := sm16 _ _ e14
      have e15 := sm16 _ _ e15
      exact q K16 Kd16 (.ref p16) (.tuple [.int d, .int m, .int c, .tuple ([.tuple [.str (PySem.Str.ofString "a"), .str (PySem.Str.ofString "b"), .int 1]] ++ T.map trD ++ [.tuple [.str (PySem.Str.ofString "a"), .str (PySem.Str.ofString "b"), .int 2]])]) ds16 (.tup (.inl (.inl e16)) (.cons (.int _) (.cons (.int _) (.cons (.int _) (.cons (.tup (.inl (.inl e14)) (dpAll_app (dpAll_app (DpAll.cons (.tup (.inl (.inl e8)) (.cons (.str _) (.cons (.str _) (.cons (.int _) .nil)))) .nil) hA) (DpAll.cons (.tup (.inl (.inl e11)) (.cons (.str _) (.cons (.str _) (.cons (.int _) .nil)))) .nil))) .nil))))) (by rw [dPrices_4, dup_ab, Bool.and_false]) (by simp [fit, fitAll, fitAll_app, g1, g2, g3, g4, tl, tl2, tl3, w1, k3, k5, strs_le])
    rw [decide_eq_false q2]
    refine iteF ?_
    refine ⟨_, rfl, rfl, _, rfl, ?_⟩
    rw [show decide (V.int (kind : Int) = V.int 3) = decide (kind = 3) from dec_nat kind 3]
    by_cases q3 : kind = 3
    · rw [decide_eq_true q3]
      refine iteT ?_
      refine ⟨_, rfl, 3, rfl, ap, _, rfl, (same_t ds6.g2 hS), (fun z => absurd z (not_whole (n := 3) (by show 3 < 4; omega))), fun _ p7 np7 => ?_⟩
      rw [show cutV [.int d, .int m, .int c, .ref t] none (some 3) = [.int d, .int m, .int c] from cut_to _ 3]
      have ds7 := ds6.new np7 (o := (.tup [.int d, .int m, .int c]))
      have sm7 : Same Kd6 (upd Kd6 p7 (.tup [.int d, .int m, .int c])) := same_new (ds6.frd np7)
      have e7 : (upd Kd6 p7 (.tup [.int d, .int m, .int c])) p7 = some (.tup [.int d, .int m, .int c]) := upd_same
      generalize upd K6 p7 (.tup [.int d, .int m, .int c]) = K7 at ds7 ⊢
      generalize upd Kd6 p7 (.tup [.int d, .int m, .int c]) = Kd7 at ds7 sm7 e7
      have hS := same_t sm7 hS
      have hT := same_t sm7 hT
      have hA := dps_same sm7 hA
      have e2 := sm7 _ _ e2
      have e3 := sm7 _ _ e3
      have e4 := sm7 _ _ e4
      have dpx := dp_same sm7 dpx
      have e6 := sm7 _ _ e6
      refine ⟨_, rfl, _, rfl, sizeOk (Nat.le_of_ble_eq_true rfl), fun p8 np8 => ?_⟩
      have ds8 := ds7.new np8 (o := (.tup [.str (PySem.Str.ofString "a"), .str (PySem.Str.ofString "b"), px]))
      have sm8 : Same Kd7 (upd Kd7 p8 (.tup [.str (PySem.Str.ofString "a"), .str (PySem.Str.ofString "b"), px])) := same_new (ds7.frd np8)
      have e8 : (upd Kd7 p8 (.tup [.str (PySem.Str.ofString "a"), .str (PySem.Str.ofString "b"), px])) p8 = some (.tup [.str (PySem.Str.ofString "a"), .str (PySem.Str.ofString "b"), px]) := upd_same
      generalize upd K7 p8 (.tup [.str (PySem.Str.ofString "a"), .str (PySem.Str.ofString "b"), px]) = K8 at ds8 ⊢
      generalize upd Kd7 p8 (.tup [.str (PySem.Str.ofString "a"), .str (PySem.Str.ofString "b"), px]) = Kd8 at ds8 sm8 e8
      have hS := same_t sm8 hS
      have hT := same_t sm8 hT
      have hA := dps_same sm8 hA
      have e2 := sm8 _ _ e2
      have e3 := sm8 _ _ e3
      have e4 := sm8 _ _ e4
      have dpx := dp_same sm8 dpx
      have e6 := sm8 _ _ e6
      have e7 := sm8 _ _ e7
      refine ⟨sizeOk (Nat.le_of_ble_eq_true rfl), fun p9 np9 => ?_⟩
      have ds9 := ds8.new np9 (o := (.lst [.ref p8]))
      have sm9 : Same Kd8 (upd Kd8 p9 (.lst [.ref p8])) := same_new (ds8.frd np9)
      have e9 : (upd Kd8 p9 (.lst [.ref p8])) p9 = some (.lst [.ref p8]) := upd_same
      generalize upd K8 p9 (.lst [.ref p8]) = K9 at ds9 ⊢
      generalize upd Kd8 p9 (.lst [.ref p8]) = Kd9 at ds9 sm9 e9
      have hS := same_t sm9 hS
      have hT := same_t sm9 hT
      have hA := dps_same sm9 hA
      have e2 := sm9 _ _ e2
      have e3 := sm9 _ _ e3
      have e4 := sm9 _ _ e4
      have dpx := dp_same sm9 dpx
      have e6 := sm9 _ _ e6
      have e7 := sm9 _ _ e7
      have e8 := sm9 _ _ e8
      refine ⟨p6, p9, _, _, rfl, rfl, ds9.g2 _ _ e6, ds9.g2 _ _ e9, sz_of (by simp only [List.length_append, List.length_cons, List.length_nil]; omega), fun p10 np10 => ?_⟩
      have ds10 := ds9.new np10 (o := (.lst (xs ++ [.ref p8])))
      have sm10 : Same Kd9 (upd Kd9 p10 (.lst (xs ++ [.ref p8]))) := same_new (ds9.frd np10)
      have e10 : (upd Kd9 p10 (.lst (xs ++ [.ref p8]))) p10 = some (.lst (xs ++ [.ref p8])) := upd_same
      generalize upd K9 p10 (.lst (xs ++ [.ref p8])) = K10 at ds10 ⊢
      generalize upd Kd9 p10 (.lst (xs ++ [.ref p8])) = Kd10 at ds10 sm10 e10
      have hS := same_t sm10 hS
      have hT := same_t sm10 hT
      have hA := dps_same sm10 hA
      have e2 := sm10 _ _ e2
      have e3 := sm10 _ _ e3
      have e4 := sm10 _ _ e4
      have dpx := dp_same sm10 dpx
      have e6 := sm10 _ _ e6
      have e7 := sm10 _ _ e7
      have e8 := sm10 _ _ e8
      have e9 := sm10 _ _ e9
      refine ⟨p10, _, rfl, .inl ⟨.inl (.inl (ds10.g2 _ _ e10)), fun p11 np11 => ?_⟩⟩
      have ds11 := ds10.new np11 (o := (.tup (xs ++ [.ref p8])))
      have sm11 : Same Kd10 (upd Kd10 p11 (.tup (xs ++ [.ref p8]))) := same_new (ds10.frd np11)
      have e11 : (upd Kd10 p11 (.tup (xs ++ [.ref p8]))) p11 = some (.tup (xs ++ [.ref p8])) := upd_same
      generalize upd K10 p11 (.tup (xs ++ [.ref p8])) = K11 at ds11 ⊢
      generalize upd Kd10 p11 (.tup (xs ++ [.ref p8])) = Kd11 at ds11 sm11 e11
      have hS := same_t sm11 hS
      have hT := same_t sm11 hT
      have hA := dps_same sm11 hA
      have e2 := sm11 _ _ e2
      have e3 := sm11 _ _ e3
      have e4 := sm11 _ _ e4
      have dpx := dp_same sm11 dpx
      have e6 := sm11 _ _ e6
      have e7 := sm11 _ _ e7
      have e8 := sm11 _ _ e8
      have e9 := sm11 _ _ e9
      have e10 := sm11 _ _ e10
      refine ⟨sizeOk (Nat.le_of_ble_eq_true rfl), fun p12 np12 => ?_⟩
      have ds12 := ds11.new np12 (o := (.tup [.ref p11]))
      have sm12 : Same Kd11 (upd Kd11 p12 (.tup [.ref p11])) := same_new (ds11.frd np12)
      have e12 : (upd Kd11 p12 (.tup [.ref p11])) p12 = some (.tup [.ref p11]) := upd_same
      generalize upd K11 p12 (.tup [.ref p11]) = K12 at ds12 ⊢
      generalize upd Kd11 p12 (.tup [.ref p11]) = Kd12 at ds12 sm12 e12
      have hS := same_t sm12 hS
      have hT := same_t sm12 hT
      have hA := dps_same sm12 hA
      have e2 := sm12 _ _ e2
      have e3 := sm12 _ _ e3
      have e4 := sm12 _ _ e4
      have dpx := dp_same sm12 dpx
      have e6 := sm12 _ _ e6
      have e7 := sm12 _ _ e7
      have e8 := sm12 _ _ e8
      have e9 := sm12 _ _ e9
      have e10 := sm12 _ _ e10
      have e11 := sm12 _ _ e11
      refine ⟨p7, p12, _, _, rfl, rfl, .inl (.inl (ds12.g2 _ _ e7)), .inl (.inl (ds12.g2 _ _ e12)), sizeOk (Nat.le_of_ble_eq_true rfl), (fun z => absurd z (by simp)), (fun _ z => absurd z (by simp)), fun _ _ p13 np13 => ?_⟩
      have ds13 := ds12.new np13 (o := (.tup ([.int d, .int m, .int c] ++ [.ref p11])))
      have sm13 : Same Kd12 (upd Kd12 p13 (.tup ([.int d, .int m, .int c] ++ [.ref p11]))) := same_new (ds12.frd np13)
      have e13 : (upd Kd12 p13 (.tup ([.int d, .int m, .int c] ++ [.ref p11]))) p13 = some (.tup ([.int d, .int m, .int c] ++ [.ref p11])) := upd_same
      generalize upd K12 p13 (.tup ([.int d, .int m, .int c] ++ [.ref p11])) = K13 at ds13 ⊢
      generalize upd Kd12 p13 (.tup ([.int d, .int m, .int c] ++ [.ref p11])) = Kd13 at ds13 sm13 e13
      have hS := same_t sm13 hS
      have hT := same_t sm13 hT
      have hA := dps_same sm13 hA
      have e2 := sm13 _ _ e2
      have e3 := sm13 _ _ e3
      have e4 := sm13 _ _ e4
      have dpx := dp_same sm13 dpx
      have e6 := sm13 _ _ e6
      have e7 := sm13 _ _ e7
      have e8 := sm13 _ _ e8
      have e9 := sm13 _ _ e9
      have e10 := sm13 _ _ e10
      have e11 := sm13 _ _ e11
      have e12 := sm13 _ _ e12
      exact q K13 Kd13 (.ref p13) (.tuple [.int d, .int m, .int c, .tuple (T.map trD ++ [.tuple [.str (PySem.Str.ofString "a"), .str (PySem.Str.ofString "b"), pd]])]) ds13 (.tup (.inl (.inl e13)) (.cons (.int _) (.cons (.int _) (.cons (.int _) (.cons (.tup (.inl (.inl e11)) (dpAll_app hA (DpAll.cons (.tup (.inl (.inl e8)) (.cons (.str _) (.cons (.str _) (.cons (dpx) .nil)))) .nil))) .nil))))) (by rw [dPrices_4]; show (_ && trOk [] _) = false; rw [trOk_last (fun s => by rw [trOk_3, k1]; simp), Bool.and_false]) (by simp [fit, fitAll, fitAll_app, g1, g2, g3, g4, tl, tl2, tl3, w1, k3, k5, strs_le])
    rw [decide_eq_false q3]
    refine iteF ?_
    refine ⟨_, rfl, rfl, _, rfl, ?_⟩
    rw [show decide (V.int (kind : Int) = V.int 4) = decide (kind = 4) from dec_nat kind 4]
    by_cases q4 : kind = 4
    · rw [decide_eq_true q4]
      refine iteT ?_
      refine ⟨_, rfl, 3, rfl, ap, _, rfl, (same_t ds6.g2 hS), (fun z => absurd z (not_whole (n := 3) (by show 3 < 4; omega))), fun _ p7 np7 => ?_⟩
      rw [show cutV [.int d, .int m, .int c, .ref t] none (some 3) = [.int d, .int m, .int c] from cut_to _ 3]
      have ds7 := ds6.new np7 (o := (.tup [.int d, .int m, .int c]))
      have sm7 : Same Kd6 (upd Kd6 p7 (.tup [.int d, .int m, .int c])) := same_new (ds6.frd np7)
      have e7 : (upd Kd6 p7 (.tup [.int d, .int m, .int c])) p7 = some (.tup [.int d, .int m, .int c]) := upd_same
      generalize upd K6 p7 (.tup [.int d, .int m, .int c]) = K7 at ds7 ⊢
      generalize upd Kd6 p7 (.tup [.int d, .int m, .int c]) = Kd7 at ds7 sm7 e7
      have hS := same_t sm7 hS
      have hT := same_t sm7 hT
      have hA := dps_same sm7 hA
      have e2 := sm7 _ _ e2
      have e3 := sm7 _ _ e3
      have e4 := sm7 _ _ e4
      have dpx := dp_same sm7 dpx
      have e6 := sm7 _ _ e6
      refine ⟨_, rfl, sizeOk (Nat.le_of_ble_eq_true rfl), fun p8 np8 => ?_⟩
      have ds8 := ds7.new np8 (o := (.tup [.int 0]))
      have sm8 : Same Kd7 (upd Kd7 p8 (.tup [.int 0])) := same_new (ds7.frd np8)
      have e8 : (upd Kd7 p8 (.tup [.int 0])) p8 = some (.tup [.int 0]) := upd_same
      generalize upd K7 p8 (.tup [.int 0]) = K8 at ds8 ⊢
      generalize upd Kd7 p8 (.tup [.int 0]) = Kd8 at ds8 sm8 e8
      have hS := same_t sm8 hS
      have hT := same_t sm8 hT
      have hA := dps_same sm8 hA
      have e2 := sm8 _ _ e2
      have e3 := sm8 _ _ e3
      have e4 := sm8 _ _ e4
      have dpx := dp_same sm8 dpx
      have e6 := sm8 _ _ e6
      have e7 := sm8 _ _ e7
      refine ⟨ap, p8, _, _, rfl, rfl, (same_t ds8.g2 hS), .inl (.inl (ds8.g2 _ _ e8)), sizeOk (Nat.le_of_ble_eq_true rfl), (fun z => absurd z (by simp)), (fun _ z => absurd z (by simp)), fun _ _ p9 np9 => ?_⟩
      have ds9 := ds8.new np9 (o := (.tup ([.int d, .int m, .int c, .ref t] ++ [.int 0])))
      have sm9 : Same Kd8 (upd Kd8 p9 (.tup ([.int d, .int m, .int c, .ref t] ++ [.int 0]))) := same_new (ds8.frd np9)
      have e9 : (upd Kd8 p9 (.tup ([.int d, .int m, .int c, .ref t] ++ [.int 0]))) p9 = some (.tup ([.int d, .int m, .int c, .ref t] ++ [.int 0])) := upd_same
      generalize upd K8 p9 (.tup ([.int d, .int m, .int c, .ref t] ++ [.int 0])) = K9 at ds9 ⊢
      generalize upd Kd8 p9 (.tup ([.int d, .int m, .int c, .ref t] ++ [.int 0])) = Kd9 at ds9 sm9 e9
      have hS := same_t sm9 hS
      have hT := same_t sm9 hT
      have hA := dps_same sm9 hA
      have e2 := sm9 _ _ e2
      have e3 := sm9 _ _ e3
      have e4 := sm9 _ _ e4
      have dpx := dp_same sm9 dpx
      have e6 := sm9 _ _ e6
      have e7 := sm9 _ _ e7
      have e8 := sm9 _ _ e8
      refine ⟨_, rfl, ap, _, rfl, .inr (same_t ds9.g2 hS), fun p10 np10 => ?_⟩
      have ds10 := ds9.new np10 (o := (.lst [.int d, .int m, .int c, .ref t]))
      have sm10 : Same Kd9 (upd Kd9 p10 (.lst [.int d, .int m, .int c, .ref t])) := same_new (ds9.frd np10)
      have e10 : (upd Kd9 p10 (.lst [.int d, .int m, .int c, .ref t])) p10 = some (.lst [.int d, .int m, .int c, .ref t]) := upd_same
      generalize upd K9 p10 (.lst [.int d, .int m, .int c, .ref t]) = K10 at ds10 ⊢
      generalize upd Kd9 p10 (.lst [.int d, .int m, .int c, .ref t]) = Kd10 at ds10 sm10 e10
      have hS := same_t sm10 hS
      have hT := same_t sm10 hT
      have hA := dps_same sm10 hA
      have e2 := sm10 _ _ e2
      have e3 := sm10 _ _ e3
      have e4 := sm10 _ _ e4
      have dpx := dp_same sm10 dpx
      have e6 := sm10 _ _ e6
      have e7 := sm10 _ _ e7
      have e8 := sm10 _ _ e8
      have e9 := sm10 _ _ e9
      refine ⟨_, rfl, 3, rfl, ap, _, rfl, (same_t ds10.g2 hS), (fun z => absurd z (not_whole (n := 3) (by show 3 < 4; omega))), fun _ p11 np11 => ?_⟩
      rw [show cutV [.int d, .int m, .int c, .ref t] none (some 3) = [.int d, .int m, .int c] from cut_to _ 3]
      have ds11 := ds10.new np11 (o := (.tup [.int d, .int m, .int c]))
      have sm11 : Same Kd10 (upd Kd10 p11 (.tup [.int d, .int m, .int c])) := same_new (ds10.frd np11)
      have e11 : (upd Kd10 p11 (.tup [.int d, .int m, .int c])) p11 = some (.tup [.int d, .int m, .int c]) := upd_same
      generalize upd K10 p11 (.tup [.int d, .int m, .int c]) = K11 at ds11 ⊢
      generalize upd Kd10 p11 (.tup [.int d, .int m, .int c]) = Kd11 at ds11 sm11 e11
      have hS := same_t sm11 hS
      have hT := same_t sm11 hT
      have hA := dps_same sm11 hA
      have e2 := sm11 _ _ e2
      have e3 := sm11 _ _ e3
      have e4 := sm11 _ _ e4
      have dpx := dp_same sm11 dpx
      have e6 := sm11 _ _ e6
      have e7 := sm11 _ _ e7
      have e8 := sm11 _ _ e8
      have e9 := sm11 _ _ e9
      have e10 := sm11 _ _ e10
      refine ⟨_, rfl, sizeOk (Nat.le_of_ble_eq_true rfl), fun p12 np12 => ?_⟩
      have ds12 := ds11.new np12 (o := (.tup [.ref p6]))
      have sm12 : Same Kd11 (upd Kd11 p12 (.tup [.ref p6])) := same_new (ds11.frd np12)
      have e12 : (upd Kd11 p12 (.tup [.ref p6])) p12 = some (.tup [.ref p6]) := upd_same
      generalize upd K11 p12 (.tup [.ref p6]) = K12 at ds12 ⊢
      generalize upd Kd11 p12 (.tup [.ref p6]) = Kd12 at ds12 sm12 e12
      have hS := same_t sm12 hS
      have hT := same_t sm12 hT
      have hA := dps_same sm12 hA
      have e2 := sm12 _ _ e2
      have e3 := sm12 _ _ e3
      have e4 := sm12 _ _ e4
      have dpx := dp_same sm12 dpx
      have e6 := sm12 _ _ e6
      have e7 := sm12 _ _ e7
      have e8 := sm12 _ _ e8
      have e9 := sm12 _ _ e9
      have e10 := sm12 _ _ e10
      have e11 := sm12 _ _ e11
      refine ⟨p11, p12, _, _, rfl, rfl, .inl (.inl (ds12.g2 _ _ e11)), .inl (.inl (ds12.g2 _ _ e12)), sizeOk (Nat.le_of_ble_eq_true rfl), (fun z => absurd z (by simp)), (fun _ z => absurd z (by simp)), fun _ _ p13 np13 => ?_⟩
      have ds13 := ds12.new np13 (o := (.tup ([.int d, .int m, .int c] ++ [.ref p6])))
      have sm13 : Same Kd12 (upd Kd12 p13 (.tup ([.int d, .int m, .int c] ++ [.ref p6]))) := same_new (ds12.frd np13)
      have e13 : (upd Kd12 p13 (.tup ([.int d, .int m, .int c] ++ [.ref p6]))) p13 = some (.tup ([.int d, .int m, .int c] ++ [.ref p6])) := upd_same
      generalize upd K12 p13 (.tup ([.int d, .int m, .int c] ++ [.ref p6])) = K13 at ds13 ⊢
      generalize upd Kd12 p13 (.tup ([.int d, .int m, .int c] ++ [.ref p6])) = Kd13 at ds13 sm13 e13
      have hS := same_t sm13 hS
      have hT := same_t sm13 hT
      have hA := dps_same sm13 hA
      have e2 := sm13 _ _ e2
      have e3 := sm13 _ _ e3
      have e4 := sm13 _ _ e4
      have dpx := dp_same sm13 dpx
      have e6 := sm13 _ _ e6
      have e7 := sm13 _ _ e7
      have e8 := sm13 _ _ e8
      have e9 := sm13 _ _ e9
      have e10 := sm13 _ _ e10
      have e11 := sm13 _ _ e11
      have e12 := sm13 _ _ e12
      have no : ∀ e ∈ ([.tuple [.int d, .int m, .int c], .tuple [.int d, .int m, .int c, .tuple (T.map trD), .int 0], .list [.int d, .int m, .int c, .tuple (T.map trD)], .tuple [.int d, .int m, .int c, .list (T.map trD)]] : List PyData), dPrices e = false ∧ fit e 6 = true := by
        intro e he
        simp only [List.mem_cons, List.not_mem_nil, or_false] at he
        rcases he with rfl | rfl | rfl | rfl
        · exact ⟨rfl, by simp [fit, fitAll]⟩
        · exact ⟨rfl, by simp [fit, fitAll, g1, g2, g3, g4, tl]⟩
        · exact ⟨rfl, by simp [fit, fitAll, g1, g2, g3, g4, tl]⟩
        · exact ⟨by rw [dPrices_4]; exact Bool.and_false _, by simp [fit, fitAll, g1, g2, g3, g4, tl]⟩
      refine ⟨sizeOk (Nat.le_of_ble_eq_true rfl), fun p14 np14 => ?_⟩
      have ds14 := ds13.new np14 (o := (.lst [.ref p7, .ref p9, .ref p10, .ref p13]))
      have sm14 : Same Kd13 (upd Kd13 p14 (.lst [.ref p7, .ref p9, .ref p10, .ref p13])) := same_new (ds13.frd np14)
      have e14 : (upd Kd13 p14 (.lst [.ref p7, .ref p9, .ref p10, .ref p13])) p14 = some (.lst [.ref p7, .ref p9, .ref p10, .ref p13]) := upd_same
      generalize upd K13 p14 (.lst [.ref p7, .ref p9, .ref p10, .ref p13]) = K14 at ds14 ⊢
      generalize upd Kd13 p14 (.lst [.ref p7, .ref p9, .ref p10, .ref p13]) = Kd14 at ds14 sm14 e14
      have hS := same_t sm14 hS
      have hT := same_t sm14 hT
      have hA := dps_same sm14 hA
      have e2 := sm14 _ _ e2
      have e3 := sm14 _ _ e3
      have e4 := sm14 _ _ e4
      have dpx := dp_same sm14 dpx
      have e6 := sm14 _ _ e6
      have e7 := sm14 _ _ e7
      have e8 := sm14 _ _ e8
      have e9 := sm14 _ _ e9
      have e10 := sm14 _ _ e10
      have e11 := sm14 _ _ e11
      have e12 := sm14 _ _ e12
      have e13 := sm14 _ _ e13
      have eW : K14 p14 = some (.lst [.ref p7, .ref p9, .ref p10, .ref p13]) := ds14.g2 _ _ e14
      have nWa : p14 ≠ a := by
        intro z
        have := ds14.n
        rw [← z, e14] at this
        cases this
      have all : DpAll K Kd14 [.ref p7, .ref p9, .ref p10, .ref p13] ([.tuple [.int d, .int m, .int c], .tuple [.int d, .int m, .int c, .tuple (T.map trD), .int 0], .list [.int d, .int m, .int c, .tuple (T.map trD)], .tuple [.int d, .int m, .int c, .list (T.map trD)]]) := .cons (.tup (.inl (.inl e7)) (.cons (.int _) (.cons (.int _) (.cons (.int _) (.nil))))) (.cons (.tup (.inl (.inl e9)) (.cons (.int _) (.cons (.int _) (.cons (.int _) (.cons (.tup hT hA) (.cons (.int _) .nil)))))) (.cons (.lst (.inl (.inl e10)) (.cons (.int _) (.cons (.int _) (.cons (.int _) (.cons (.tup hT hA) .nil))))) (.cons (.tup (.inl (.inl e13)) (.cons (.int _) (.cons (.int _) (.cons (.int _) (.cons (.lst (.inl (.inl e6)) hA) .nil))))) (.nil))))
      refine ⟨_, rfl, a, 4, rfl, ds14.e, by decide, by decide, fun u K15 hu b15 be15 => ?_⟩
      have ds15 := ds14.draw b15 be15
      obtain ⟨x, hx⟩ : ∃ x, ([.ref p7, .ref p9, .ref p10, .ref p13] : List V)[u]? = some x := ⟨_, List.getElem?_eq_getElem hu⟩
      obtain ⟨dd, hdd, dx⟩ := dpAll_get all hx
      obtain ⟨k1, k2⟩ := no dd (List.mem_of_getElem? hdd)
      exact ⟨p14, _, _, x, rfl, rfl, .inl (.inl (b15 _ _ eW nWa)), atI_nat hx, q K15 Kd14 x dd ds15 dx k1 k2⟩
    rw [decide_eq_false q4]
    refine iteF ?_
    refine ⟨sizeOk (Nat.le_of_ble_eq_true rfl), fun p7 np7 => ?_⟩
    have ds7 := ds6.new np7 (o := (.tup []))
    have sm7 : Same Kd6 (upd Kd6 p7 (.tup [])) := same_new (ds6.frd np7)
    have e7 : (upd Kd6 p7 (.tup [])) p7 = some (.tup []) := upd_same
    generalize upd K6 p7 (.tup []) = K7 at ds7 ⊢
    generalize upd Kd6 p7 (.tup []) = Kd7 at ds7 sm7 e7
    have hS := same_t sm7 hS
    have hT := same_t sm7 hT
    have hA := dps_same sm7 hA
    have e2 := sm7 _ _ e2
    have e3 := sm7 _ _ e3
    have e4 := sm7 _ _ e4
    have dpx := dp_same sm7 dpx
    have e6 := sm7 _ _ e6
    refine ⟨sizeOk (Nat.le_of_ble_eq_true rfl), fun p8 np8 => ?_⟩
    have ds8 := ds7.new np8 (o := (.lst []))
    have sm8 : Same Kd7 (upd Kd7 p8 (.lst [])) := same_new (ds7.frd np8)
    have e8 : (upd Kd7 p8 (.lst [])) p8 = some (.lst []) := upd_same
    generalize upd K7 p8 (.lst []) = K8 at ds8 ⊢
    generalize upd Kd7 p8 (.lst []) = Kd8 at ds8 sm8 e8
    have hS := same_t sm8 hS
    have hT := same_t sm8 hT
    have hA := dps_same sm8 hA
    have e2 := sm8 _ _ e2
    have e3 := sm8 _ _ e3
    have e4 := sm8 _ _ e4
    have dpx := dp_same sm8 dpx
    have e6 := sm8 _ _ e6
    have e7 := sm8 _ _ e7
    refine ⟨sizeOk (Nat.le_of_ble_eq_true rfl), fun p9 np9 => ?_⟩
    have ds9 := ds8.new np9 (o := (.tup [.int 1, .int 1, .int 1]))
    have sm9 : Same Kd8 (upd Kd8 p9 (.tup [.int 1, .int 1, .int 1])) := same_new (ds8.frd np9)
    have e9 : (upd Kd8 p9 (.tup [.int 1, .int 1, .int 1])) p9 = some (.tup [.int 1, .int 1, .int 1]) := upd_same
    generalize upd K8 p9 (.tup [.int 1, .int 1, .int 1]) = K9 at ds9 ⊢
    generalize upd Kd8 p9 (.tup [.int 1, .int 1, .int 1]) = Kd9 at ds9 sm9 e9
    have hS := same_t sm9 hS
    have hT := same_t sm9 hT
    have hA := dps_same sm9 hA
    have e2 := sm9 _ _ e2
    have e3 := sm9 _ _ e3
    have e4 := sm9 _ _ e4
    have dpx := dp_same sm9 dpx
    have e6 := sm9 _ _ e6
    have e7 := sm9 _ _ e7
    have e8 := sm9 _ _ e8
    refine ⟨sizeOk (Nat.le_of_ble_eq_true rfl), fun p10 np10 => ?_⟩
    have ds10 := ds9.new np10 (o := (.tup [.int 1, .int 1, .int 1, .int 1]))
    have sm10 : Same Kd9 (upd Kd9 p10 (.tup [.int 1, .int 1, .int 1, .int 1])) := same_new (ds9.frd np10)
    have e10 : (upd Kd9 p10 (.tup [.int 1, .int 1, .int 1, .int 1])) p10 = some (.tup [.int 1, .int 1, .int 1, .int 1]) := upd_same
    generalize upd K9 p10 (.tup [.int 1, .int 1, .int 1, .int 1]) = K10 at ds10 ⊢
    generalize upd Kd9 p10 (.tup [.int 1, .int 1, .int 1, .int 1]) = Kd10 at ds10 sm10 e10
    have hS := same_t sm10 hS
    have hT := same_t sm10 hT
    have hA := dps_same sm10 hA
    have e2 := sm10 _ _ e2
    have e3 := sm10 _ _ e3
    have e4 := sm10 _ _ e4
    have dpx := dp_same sm10 dpx
    have e6 := sm10 _ _ e6
    have e7 := sm10 _ _ e7
    have e8 := sm10 _ _ e8
    have e9 := sm10 _ _ e9
    have no := endsP_no
    refine ⟨sizeOk (Nat.le_of_ble_eq_true rfl), fun p11 np11 => ?_⟩
    have ds11 := ds10.new np11 (o := (.lst [.non, .int 0, .bl true, .str (PySem.Str.ofString ""), .ref p7, .ref p8, .ref p9, .ref p10]))
    have sm11 : Same Kd10 (upd Kd10 p11 (.lst [.non, .int 0, .bl true, .str (PySem.Str.ofString ""), .ref p7, .ref p8, .ref p9, .ref p10])) := same_new (ds10.frd np11)
    have e11 : (upd Kd10 p11 (.lst [.non, .int 0, .bl true, .str (PySem.Str.ofString ""), .ref p7, .ref p8, .ref p9, .ref p10])) p11 = some (.lst [.non, .int 0, .bl true, .str (PySem.Str.ofString ""), .ref p7, .ref p8, .ref p9, .ref p10]) := upd_same
    generalize upd K10 p11 (.lst [.non, .int 0, .bl true, .str (PySem.Str.ofString ""), .ref p7, .ref p8, .ref p9, .ref p10]) = K11 at ds11 ⊢
    generalize upd Kd10 p11 (.lst [.non, .int 0, .bl true, .str (PySem.Str.ofString ""), .ref p7, .ref p8, .ref p9, .ref p10]) = Kd11 at ds11 sm11 e11
    have hS := same_t sm11 hS
    have hT := same_t sm11 hT
    have hA := dps_same sm11 hA
    have e2 := sm11 _ _ e2
    have e3 := sm11 _ _ e3
    have e4 := sm11 _ _ e4
    have dpx := dp_same sm11 dpx
    have e6 := sm11 _ _ e6
    have e7 := sm11 _ _ e7
    have e8 := sm11 _ _ e8
    have e9 := sm11 _ _ e9
    have e10 := sm11 _ _ e10
    have eW : K11 p11 = some (.lst [.non, .int 0, .bl true, .str (PySem.Str.ofString ""), .ref p7, .ref p8, .ref p9, .ref p10]) := ds11.g2 _ _ e11
    have nWa : p11 ≠ a := by
      intro z
      have := ds11.n
      rw [← z, e11] at this
      cases this
    have all : DpAll K Kd11 [.non, .int 0, .bl true, .str (PySem.Str.ofString ""), .ref p7, .ref p8, .ref p9, .ref p10] (endsP) := .cons (.non) (.cons (.int _) (.cons (.bl _) (.cons (.str _) (.cons (.tup (.inl (.inl e7)) .nil) (.cons (.lst (.inl (.inl e8)) .nil) (.cons (.tup (.inl (.inl e9)) (.cons (.int _) (.cons (.int _) (.cons (.int _) (.nil))))) (.cons (.tup (.inl (.inl e10)) (.cons (.int _) (.cons (.int _) (.cons (.int _) (.cons (.int _) .nil))))) (.nil))))))))
    refine ⟨_, rfl, a, 8, rfl, ds11.e, by decide, by decide, fun u K12 hu b12 be12 => ?_⟩
    have ds12 := ds11.draw b12 be12
    obtain ⟨x, hx⟩ : ∃ x, ([.non, .int 0, .bl true, .str (PySem.Str.ofString ""), .ref p7, .ref p8, .ref p9, .ref p10] : List V)[u]? = some x := ⟨_, List.getElem?_eq_getElem hu⟩
    obtain ⟨dd, hdd, dx⟩ := dpAll_get all hx
    obtain ⟨k1, k2⟩ := no dd (List.mem_of_getElem? hdd)
    exact ⟨p11, _, _, x, rfl, rfl, .inl (.inl (b12 _ _ eW nWa)), atI_nat hx, q K12 Kd11 x dd ds12 dx k1 k2⟩
end
end K14
set_option maxRecDepth 100000
set_option maxHeartbeats 4000000
namespace K14
open PySem PySem.Spec PyProof.Rows L2
open Fo
theorem xf_of {P : Program} {K : PySem.W.Frag} {mg : Str → Option Value} {nm qual : Str} {C fI : Addr} (T : K14X.InvC P K mg nm qual C fI) : XfC K C := ⟨T.ga, T.gg, T.exC, T.hdC⟩
section
variable {P : Program} {w : World} {K : PySem.W.Frag} {mg : Str → Option Value} {base : Heap}
theorem ok_law_alike (T : Top P K mg) : FnOk P w K mg base CX0 45 T.d_law_alike.f T.d_law_alike.fd ["_law_told", "_law_due"] (spAlike K 45) := ok_alike_n T 45
theorem sclawasked : FnScope ["_law_a", "_law_b", "_law_prices_here", "e"] ["_law_a", "_law_b", "_law_prices_here"] (defScope (topS 62)) := ⟨rfl, rfl, rfl, by decide +kernel, rfl, by decide +kernel, by decide +kernel⟩
def Outcome (da db dp res : PyData) : Prop :=
  (dForest da = true ∧ dForest db = true ∧ dPrices dp = true ∧ ∃ F G d m c T, da = enc F ∧ db = enc G ∧ dp = prD d m c T ∧ F.size < 20 ∧ G.size < 20 ∧ res = .tuple [.str (PySem.Str.ofString "told"), .int (dist (prOf d m c T) F G)]) ∨
  (dForest da = false ∧ res = .tuple [.str (PySem.Str.ofString "forest"), da]) ∨
  (dForest da = true ∧ dForest db = false ∧ res = .tuple [.str (PySem.Str.ofString "forest"), db]) ∨
  (dForest da = true ∧ dForest db = true ∧ dPrices dp = false ∧ res = .tuple [.str (PySem.Str.ofString "prices"), dp])
def spAsked (K : PySem.W.Frag) : Sp := fun vs H Q _ => ∃ va vb vp da db dp res, vs = [va, vb, vp] ∧ Three K H va vb vp da db dp ∧ Outcome da db dp res ∧ ∀ H' v, Same H H' → Dp K H' v res → Q v H'
theorem ok_law_asked (T : Top P K mg) : FnOk P w K mg base CX0 46 T.d_law_asked.f T.d_law_asked.fd ["_law_a", "_law_b", "_law_prices_here"] (spAsked K) := by
  refine T.d_law_asked.F.ok sclawasked (fun vs H Q E h => ?_) (fun cdv A outer s H vs Q E hr h => ?_)
  · obtain ⟨va, vb, vp, da, db, dp, res, rfl, _⟩ := h
    rfl
  · obtain ⟨va, vb, vp, da, db, dp, res, rfl, th, oc, q⟩ := h
    refine ⟨_, pss_one (ps_try_named (l := [(.ref T.C1, 3, fun a cls d => tRet (tTup (tCons (tC (.str (PySem.Str.ofString "forest"))) (tCons (tXf a cls d T.C1 "value" (tVar 3)) tNil)))), (.ref T.C2, 3, fun a cls d => tRet (tTup (tCons (tC (.str (PySem.Str.ofString "prices"))) (tCons (tXf a cls d T.C2 "value" (tVar 3)) tNil))))])
      (tb := fun W => tRet (tTup (tCons (tC (.str (PySem.Str.ofString "told"))) (tCons (tCallS (spDist K T.C1 T.C2) (WE W) (tCons (tVar 0) (tCons (tVar 1) (tCons (tVar 2) tNil)))) tNil)))) (Wout := fun _ _ _ _ => False) rfl rfl sclawasked.nd takes0
      (fun W pn xe tk _ => pss_one (ps_ret (by exact (pe_tup (pa_cons pe_str (pa_cons (pe_callS (ok_forest_distance T) (hr.mono (by omega)) rfl T.d_forest_distance.g T.d_forest_distance.F.kp T.d_forest_distance.b (fun σ => passAt tk σ) (by exact (pa_cons (pv 0) (pa_cons (pv 1) (pa_cons (pv 2) pa_nil))))) pa_nil))))))
      (.cons ⟨rfl, by decide, .inl T.x_InvalidForest.gC⟩ rfl rfl (fun a oe cls d pn hz hf => pss_one (ps_ret (by exact (pe_tup (pa_cons pe_str (pa_cons (pe_xf (xf_of T.x_InvalidForest) T.x_InvalidForest.noN hz hf (pv 3)) pa_nil))))))
      (.cons ⟨rfl, by decide, .inl T.x_InvalidPrices.gC⟩ rfl rfl (fun a oe cls d pn hz hf => pss_one (ps_ret (by exact (pe_tup (pa_cons pe_str (pa_cons (pe_xf (xf_of T.x_InvalidPrices) T.x_InvalidPrices.noN hz hf (pv 3)) pa_nil)))))) .nil))), ?_⟩
    refine ⟨_, rfl, _, rfl, _, rfl, va, vb, vp, da, db, dp, rfl, th, ?_⟩
    rcases oc with ⟨e1, e2, e3, F, G, d, m, c, Tb, f1, f2, f3, z1, z2, rfl⟩ | ⟨e1, rfl⟩ | ⟨e1, e2, rfl⟩ | ⟨e1, e2, e3, rfl⟩
    · refine .inl ⟨e1, e2, e3, F, G, d, m, c, Tb, f1, f2, f3, z1, z2, fun H1 s1 => ⟨by show 2 ≤ sizeLine; decide, fun t nt => ?_⟩⟩
      exact q _ _ (s1.trans (same_new nt)) (.tup (.inl (.inl upd_same)) (.cons (.str _) (.cons (.int _) .nil)))
    · refine .inr (.inl ⟨e1, fun H1 e s1 he => ⟨true, T.x_InvalidForest.te, fun _ a ha => ?_, fun q => Bool.noConfusion q⟩⟩)
      refine ⟨_, rfl, rfl, rfl, e, _, va, rfl, he, rfl, by show 2 ≤ sizeLine; decide, fun t nt => ?_⟩
      exact q _ _ (s1.trans (same_new nt)) (.tup (.inl (.inl upd_same)) (.cons (.str _) (.cons (dp_same (s1.trans (same_new nt)) th.a) .nil)))
    · refine .inr (.inr (.inl ⟨e1, e2, fun H1 e s1 he => ⟨true, T.x_InvalidForest.te, fun _ a ha => ?_, fun q => Bool.noConfusion q⟩⟩))
      refine ⟨_, rfl, rfl, rfl, e, _, vb, rfl, he, rfl, by show 2 ≤ sizeLine; decide, fun t nt => ?_⟩
      exact q _ _ (s1.trans (same_new nt)) (.tup (.inl (.inl upd_same)) (.cons (.str _) (.cons (dp_same (s1.trans (same_new nt)) th.b) .nil)))
    · refine .inr (.inr (.inr ⟨e1, e2, e3, fun H1 e s1 he => ⟨false, T.e21, fun q => Bool.noConfusion q, fun _ => ⟨true, T.x_InvalidPrices.te, fun _ a ha => ?_, fun q => Bool.noConfusion q⟩⟩⟩))
      refine ⟨_, rfl, rfl, rfl, e, _, vp, rfl, he, rfl, by show 2 ≤ sizeLine; decide, fun t nt => ?_⟩
      exact q _ _ (s1.trans (same_new nt)) (.tup (.inl (.inl upd_same)) (.cons (.str _) (.cons (dp_same (s1.trans (same_new nt)) th.p) .nil)))
end
end K14
set_option maxRecDepth 100000
set_option maxHeartbeats 4000000
namespace K14
open PySem PySem.Spec PyProof.Rows L2
open Fo
/-! ### forests of words as data -/
theorem dTrees_app : ∀ a b : List PyData, dTrees (a ++ b) = (dTrees a && dTrees b)
  | [], b => by simp [dTrees]
  | x :: a, b => by rw [List.cons_append, dTrees_cons, dTrees_cons, dTrees_app a b, Bool.and_assoc]
theorem enc_ok : ∀ F : Fo Str, (∀ s ∈ prw F, wordOk s = true) → dForest (enc F) = true := by
  intro F
  unfold enc
  rw [dForest_tup]
  induction F with
  | nil => exact fun _ => by simp [encL, dTrees]
  | snoc r w c ihr ihc =>
    intro h
    have h : ∀ s ∈ prw r ++ w :: prw c, wordOk s = true := h
    rw [encL, dTrees_app, ihr fun s hs => h s (List.mem_append_left _ hs), dTrees_cons, dTree_pair, dForest_tup, ihc fun s hs => h s (List.mem_append_right _ (List.mem_cons_of_mem _ hs))]
    have hw : dWord (.str w) = true := h w (List.mem_append_right _ List.mem_cons_self)
    rw [hw]
    simp [dTrees]
theorem encL_len : ∀ F : Fo Str, (encL F).length ≤ F.size
  | .nil => Nat.le_refl _
  | .snoc r w c => by
    rw [encL, List.length_append, size_snoc]
    have := encL_len r
    simp
    omega
theorem fit_encL : ∀ (F : Fo Str) (n : Nat), (∀ s ∈ prw F, wordOk s = true) → F.size ≤ 1000 → 2 * F.size ≤ n → fitAll (encL F) n = true := by
  intro F
  induction F with
  | nil => exact fun n _ _ _ => by simp [encL, fitAll]
  | snoc r w c ihr ihc =>
    intro n h hz hn
    have h : ∀ s ∈ prw r ++ w :: prw c, wordOk s = true := h
    rw [size_snoc] at hz hn
    have hw : w.length ≤ 1000 := by
      have := (wordOk_iff (h w (List.mem_append_right _ List.mem_cons_self))).2.1
      omega
    obtain ⟨k, rfl⟩ : ∃ k, n = k + 2 := ⟨n - 2, by omega⟩
    have e1 := ihr (k + 2) (fun s hs => h s (List.mem_append_left _ hs)) (by omega) (by omega)
    have e2 := ihc k (fun s hs => h s (List.mem_append_right _ (List.mem_cons_of_mem _ hs))) (by omega) (by omega)
    have e3 : (encL c).length ≤ 1000 := by have := encL_len c; omega
    rw [encL, fitAll_app, e1]
    simp [fit, fitAll, e2, e3, hw]
theorem fit_enc {F : Fo Str} (h : ∀ s ∈ prw F, wordOk s = true) (hz : F.size < 20) : fit (enc F) 39 = true := by
  have e1 := fit_encL F 38 h (by omega) (by omega)
  have e2 : (encL F).length ≤ 1000 := by have := encL_len F; omega
  unfold enc
  simp [fit, e1, e2]
theorem fit_pr {d m c : Int} {T : List (Str × Str × Int)} (h : PrOk d m c T) (hl : T.length ≤ 1000) : fit (prD d m c T) 6 = true := by
  have g := fitAll_le (n := 4) (fit_tr h.t) (by omega)
  unfold prD
  simp [fit, fitAll, g, hl]
theorem fit_i (i : Int) (n : Nat) : fit (.int i) n = true := by simp only [fit]
theorem flat_prw : ∀ l : List Str, prw (flat l) = l := fun l => by
  induction h : l.length generalizing l with
  | zero => rw [List.eq_nil_of_length_eq_zero h]; rfl
  | succ n ih =>
    have hne : l ≠ [] := fun z => by rw [z] at h; simp at h
    have e := (List.dropLast_concat_getLast hne).symm
    generalize l.dropLast = a at e
    generalize l.getLast hne = x at e
    subst e
    rw [flat_concat]
    show prw (flat a) ++ x :: [] = _
    rw [ih a (by rw [List.length_append] at h; simpa using h)]
theorem flat_enc : ∀ l : List Str, encL (flat l) = l.map fun s => .tuple [.str s, .tuple []] := fun l => by
  induction h : l.length generalizing l with
  | zero => rw [List.eq_nil_of_length_eq_zero h]; rfl
  | succ n ih =>
    have hne : l ≠ [] := fun z => by rw [z] at h; simp at h
    have e := (List.dropLast_concat_getLast hne).symm
    generalize l.dropLast = a at e
    generalize l.getLast hne = x at e
    subst e
    rw [flat_concat, encL, List.map_append, ih a (by rw [List.length_append] at h; simpa using h)]
    rfl
theorem app_prw {W : Type} : ∀ a b : Fo W, prw (app a b) = prw a ++ prw b
  | a, .nil => by rw [app_nil]; show _ = prw a ++ []; rw [List.append_nil]
  | a, .snoc r w c => by
    rw [app_snoc]
    show prw (app a r) ++ w :: prw c = prw a ++ (prw r ++ w :: prw c)
    rw [app_prw a r, List.append_assoc]
section
variable {P : Program} {w : World} {K : PySem.W.Frag} {mg : Str → Option Value} {base : Heap}
theorem sclawrefused : FnScope ["_law_a", "_law_b", "_law_prices_here", "_law_bad_here", "_law_other_here", "_law_spoilt"] ["_law_a", "_law_b", "_law_prices_here", "_law_bad_here", "_law_other_here", "_law_spoilt"] (defScope (topS 63)) := ⟨rfl, rfl, rfl, by decide +kernel, rfl, by decide +kernel, by decide +kernel⟩
def spRefused (K : PySem.W.Frag) : Sp := fun vs H Q _ => ∃ va vb vp vx vy vz da db dx dy dz, vs = [va, vb, vp, vx, vy, vz] ∧ Dp K H va da ∧ Dp K H vb db ∧ Dp K H vx dx ∧ Dp K H vy dy ∧ Dp K H vz dz ∧
  (dForest da = true ∧ dForest db = true ∧ dForest dx = false ∧ dForest dy = false ∧ dPrices dz = false) ∧ (fit da 39 = true ∧ fit db 39 = true ∧ fit dx 39 = true ∧ fit dy 39 = true ∧ fit dz 6 = true) ∧ ∀ H', Same H H' → Q (.bl true) H'
theorem ok_law_refused (T : Top P K mg) : FnOk P w K mg base CX0 47 T.d_law_refused.f T.d_law_refused.fd ["_law_a", "_law_b", "_law_prices_here", "_law_bad_here", "_law_other_here", "_law_spoilt"] (spRefused K) := by
  refine T.d_law_refused.F.ok sclawrefused (fun vs H Q E h => ?_) (fun cdv A outer s H vs Q E hr h => ?_)
  · obtain ⟨va, vb, vp, vx, vy, vz, da, db, dx, dy, dz, rfl, _⟩ := h
    rfl
  · obtain ⟨va, vb, vp, vx, vy, vz, da, db, dx, dy, dz, rfl, ha, hb, hx, hy, hz, ⟨oa, ob, nx, ny, nz⟩, ⟨fa, fb, fx, fy, fz⟩, q⟩ := h
    refine ⟨_, pss_cons (ps_if (pt_not (pt_val (pe_call (ok_law_alike T) (hr.mono (by omega)) rfl T.d_law_alike.g T.d_law_alike.F.kp T.d_law_alike.b .nil pass0 (pa_cons (pe_call (ok_law_asked T) (hr.mono (by omega)) rfl T.d_law_asked.g T.d_law_asked.F.kp T.d_law_asked.b .nil pass0 (pa_cons (pv 3) (pa_cons (pv 4) (pa_cons (pv 5) pa_nil)))) (pa_cons (pe_tup (pa_cons (pe_str) (pa_cons (pv 3) pa_nil))) pa_nil)))))
      (pss_one (ps_ret (pe_bl)))
      (pss_nil))
      (pss_cons (ps_if (pt_not (pt_val (pe_call (ok_law_alike T) (hr.mono (by omega)) rfl T.d_law_alike.g T.d_law_alike.F.kp T.d_law_alike.b .nil pass0 (pa_cons (pe_call (ok_law_asked T) (hr.mono (by omega)) rfl T.d_law_asked.g T.d_law_asked.F.kp T.d_law_asked.b .nil pass0 (pa_cons (pv 0) (pa_cons (pv 4) (pa_cons (pv 5) pa_nil)))) (pa_cons (pe_tup (pa_cons (pe_str) (pa_cons (pv 4) pa_nil))) pa_nil)))))
      (pss_one (ps_ret (pe_bl)))
      (pss_nil))
      (pss_one (ps_ret (pe_call (ok_law_alike T) (hr.mono (by omega)) rfl T.d_law_alike.g T.d_law_alike.F.kp T.d_law_alike.b .nil pass0 (pa_cons (pe_call (ok_law_asked T) (hr.mono (by omega)) rfl T.d_law_asked.g T.d_law_asked.F.kp T.d_law_asked.b .nil pass0 (pa_cons (pv 0) (pa_cons (pv 1) (pa_cons (pv 5) pa_nil)))) (pa_cons (pe_tup (pa_cons (pe_str) (pa_cons (pv 5) pa_nil))) pa_nil)))))), ?_⟩
    have wl : (PySem.Str.ofString "forest").length ≤ 1000 ∧ (PySem.Str.ofString "prices").length ≤ 1000 := by decide +kernel
    have pf : ∀ {s : Str} {d : PyData}, s.length ≤ 1000 → fit d 39 = true → fit (.tuple [.str s, d]) 40 = true := fun {s d} h1 h2 => by simp [fit, fitAll, h1, h2]
    -- the first
    refine ⟨_, rfl, _, rfl, _, rfl, vx, vy, vz, dx, dy, dz, _, rfl, ⟨hx, ⟨39, by omega, fx⟩, hy, ⟨39, by omega, fy⟩, hz, ⟨6, fz⟩⟩, .inr (.inl ⟨nx, rfl⟩), fun H1 v1 s1 d1 => ?_⟩
    refine ⟨_, rfl, by show 2 ≤ sizeLine; decide, fun t nt => ?_⟩
    have s2 : Same H1 (upd H1 t (.tup [.str (PySem.Str.ofString "forest"), vx])) := same_new nt
    refine ⟨v1, .ref t, _, 40, rfl, dp_same s2 d1, .tup (.inl (.inl upd_same)) (.cons (.str _) (.cons (dp_same (s1.trans s2) hx) .nil)), pf wl.1 fx, by omega, fun H3 s3 => ⟨_, rfl, iteF ?_⟩⟩
    have s13 := s1.trans (s2.trans s3)
    -- the second
    refine ⟨_, rfl, _, rfl, _, rfl, va, vy, vz, da, dy, dz, _, rfl, ⟨dp_same s13 ha, ⟨39, by omega, fa⟩, dp_same s13 hy, ⟨39, by omega, fy⟩, dp_same s13 hz, ⟨6, fz⟩⟩, .inr (.inr (.inl ⟨oa, ny, rfl⟩)), fun H4 v4 s4 d4 => ?_⟩
    refine ⟨_, rfl, by show 2 ≤ sizeLine; decide, fun t nt => ?_⟩
    have s5 : Same H4 (upd H4 t (.tup [.str (PySem.Str.ofString "forest"), vy])) := same_new nt
    refine ⟨v4, .ref t, _, 40, rfl, dp_same s5 d4, .tup (.inl (.inl upd_same)) (.cons (.str _) (.cons (dp_same (s13.trans (s4.trans s5)) hy) .nil)), pf wl.1 fy, by omega, fun H6 s6 => ⟨_, rfl, iteF ?_⟩⟩
    have s16 := s13.trans (s4.trans (s5.trans s6))
    -- the third
    refine ⟨_, rfl, _, rfl, _, rfl, va, vb, vz, da, db, dz, _, rfl, ⟨dp_same s16 ha, ⟨39, by omega, fa⟩, dp_same s16 hb, ⟨39, by omega, fb⟩, dp_same s16 hz, ⟨6, fz⟩⟩, .inr (.inr (.inr ⟨oa, ob, nz, rfl⟩)), fun H7 v7 s7 d7 => ?_⟩
    refine ⟨_, rfl, by show 2 ≤ sizeLine; decide, fun t nt => ?_⟩
    have s8 : Same H7 (upd H7 t (.tup [.str (PySem.Str.ofString "prices"), vz])) := same_new nt
    exact ⟨v7, .ref t, _, 40, rfl, dp_same s8 d7, .tup (.inl (.inl upd_same)) (.cons (.str _) (.cons (dp_same (s16.trans (s7.trans s8)) hz) .nil)), pf wl.2 (fit_le fz (by omega)), by omega, fun H9 s9 => q H9 (s16.trans (s7.trans (s8.trans s9)))⟩
theorem sclawflat : FnScope ["_law_words", "_law_others", "_law_prices_here", "_law_a", "_law_b", "_law_word_here"] ["_law_words", "_law_others", "_law_prices_here"] (defScope (topS 65)) := ⟨rfl, rfl, rfl, by decide +kernel, rfl, by decide +kernel, by decide +kernel⟩
def spFlat (K : PySem.W.Frag) : Sp := fun vs H Q _ => ∃ a b vp ws ws' d m c T, vs = [.ref a, .ref b, vp] ∧ SqL K H a (ssV ws) ∧ SqL K H b (ssV ws') ∧ (∀ s ∈ ws, wordOk s = true) ∧ (∀ s ∈ ws', wordOk s = true) ∧ ws.length < 20 ∧ ws'.length < 20 ∧ Dp K H vp (prD d m c T) ∧ PrOk d m c T ∧ T.length ≤ 1000 ∧ ∀ H', Same H H' → Q (.bl true) H'
theorem ok_law_flat (T : Top P K mg) : FnOk P w K mg base CX0 47 T.d_law_flat.f T.d_law_flat.fd ["_law_words", "_law_others", "_law_prices_here"] (spFlat K) := by
  refine T.d_law_flat.F.ok sclawflat (fun vs H Q E h => ?_) (fun cdv A outer s H vs Q E hr h => ?_)
  · obtain ⟨a, b, vp, ws, ws', d, m, c, T, rfl, _⟩ := h
    rfl
  · obtain ⟨a, b, vp, ws, ws', d, m, c, Tb, rfl, ha, hb, o1, o2, l1, l2, hp, ok, hT, q⟩ := h
    refine ⟨_, pss_cons (ps_set (i := 3) sclawflat.nd rfl (.inl rfl) (pe_callTy call_tuple_of rfl T.z_tuple (by decide +kernel) (pa_cons (pe_lc (own := [("_law_word_here", 5)]) (g := gName 5) (tt := tYes) rfl sclawflat.nd (pi_list (pv 0)) (blkOk_by (own := [("_law_word_here", 5)]) (N := ["_law_words", "_law_others", "_law_prices_here", "_law_a", "_law_b", "_law_word_here"]) (sc := defScope (topS 65)) (by decide +kernel)) (fun _ _ _ _ _ => pg_name (i := 5) sclawflat.nd rfl (.inl rfl)) (fun _ _ _ _ _ => pts_nil) (fun _ _ _ _ _ => pe_tup (pa_cons (pv 5) (pa_cons (pe_tup (pa_nil)) pa_nil)))) pa_nil)))
      (pss_cons (ps_set (i := 4) sclawflat.nd rfl (.inl rfl) (pe_callTy call_tuple_of rfl T.z_tuple (by decide +kernel) (pa_cons (pe_lc (own := [("_law_word_here", 5)]) (g := gName 5) (tt := tYes) rfl sclawflat.nd (pi_list (pv 1)) (blkOk_by (own := [("_law_word_here", 5)]) (N := ["_law_words", "_law_others", "_law_prices_here", "_law_a", "_law_b", "_law_word_here"]) (sc := defScope (topS 65)) (by decide +kernel)) (fun _ _ _ _ _ => pg_name (i := 5) sclawflat.nd rfl (.inl rfl)) (fun _ _ _ _ _ => pts_nil) (fun _ _ _ _ _ => pe_tup (pa_cons (pv 5) (pa_cons (pe_tup (pa_nil)) pa_nil)))) pa_nil)))
      (pss_one (ps_ret (pe_call (ok_law_alike T) (hr.mono (by omega)) rfl T.d_law_alike.g T.d_law_alike.F.kp T.d_law_alike.b .nil pass0 (pa_cons (pe_call (ok_forest_distance T) (hr.mono (by omega)) rfl T.d_forest_distance.g T.d_forest_distance.F.kp T.d_forest_distance.b .nil passL (pa_cons (pv 3) (pa_cons (pv 4) (pa_cons (pv 2) pa_nil)))) (pa_cons (pe_call (ok_row_distance T) (hr.mono (by omega)) rfl T.d_row_distance.g T.d_row_distance.F.kp T.d_row_distance.b .nil pass0 (pa_cons (pv 0) (pa_cons (pe_callTy call_list_of rfl T.z_list (by decide +kernel) (pa_cons (pv 1) pa_nil)) (pa_cons (pv 2) pa_nil)))) pa_nil)))))), ?_⟩
    -- the rows of single nodes
    have row : ∀ {H0 : Hp} {x : Addr} {us : List Str} {D : Addr}, (∀ s ∈ us, wordOk s = true) → us.length < 20 → True := fun _ _ => trivial
    refine ⟨_, rfl, a, rfl, ⟨_, ha⟩, fun D nD => ?_⟩
    refine lc_it (walk_list (K := K) (xs := ssV ws)) (fun i H' => ∃ us, Same H H' ∧ H' D = some (.lst us) ∧ DpAll K H' us ((ws.take i).map fun s => .tuple [.str s, .tuple []]) ∧ us.length = i) ⟨[], same_new nD, upd_same, .nil, rfl⟩ (fun i H' _ ⟨_, s1, _⟩ => s1.seq ha) ?_ ?_
    · rintro i x H1 H2 hi ⟨us, s1, eD, hus, hl⟩ ⟨rfl, hx⟩
      rw [ssV_len] at hi
      have hg := get_D hi
      have hx : V.str (ws.getD i (PySem.Str.ofString "")) = x := Option.some.inj ((ssV_at hg).symm.trans hx)
      subst hx
      refine ⟨rfl, _, rfl, Nat.zero_le _, fun p1 np1 => ⟨by show 2 ≤ sizeLine; decide, fun p2 np2 => ?_⟩⟩
      have s2 := same_new np1 (o := .tup [])
      have s3 := same_new np2 (o := .tup [.str (ws.getD i (PySem.Str.ofString "")), .ref p1])
      have s23 := s2.trans s3
      have dn : Dp K _ (.ref p2) (.tuple [.str (ws.getD i (PySem.Str.ofString "")), .tuple []]) := .tup (.inl (.inl upd_same)) (.cons (.str _) (.cons (.tup (.inl (.inl (s3 _ _ upd_same))) .nil) .nil))
      have eD2 := s23 _ _ eD
      refine ⟨us, eD2, sz_lt (by omega), us ++ [.ref p2], same_set (s1.trans s23) nD, upd_same, ?_, by rw [List.length_append, hl]; rfl⟩
      rw [take_next hg, List.map_append]
      refine dps_set eD2 ?_ (dpAll_app (dps_same s23 hus) (.cons dn .nil))
      rw [← List.map_append, ← flat_enc]
      exact noLists_enc _
    rintro H1 ⟨us, s1, eD, hus, _⟩
    rw [ssV_len, List.take_length, ← flat_enc] at hus
    refine ⟨D, us, rfl, .inl ⟨.inl (.inl eD), fun p np => ?_⟩⟩
    have s2 := same_new np (o := .tup us)
    have dA : Dp K (upd H1 p (.tup us)) (.ref p) (enc (flat ws)) := .tup (.inl (.inl upd_same)) (dps_same s2 hus)
    have s12 := s1.trans s2
    generalize upd H1 p (.tup us) = H2 at s12 dA ⊢
    clear s2 hus eD s1 nD np
    refine ⟨_, rfl, b, rfl, ⟨_, s12.seq hb⟩, fun D2 nD2 => ?_⟩
    refine lc_it (walk_list (K := K) (xs := ssV ws')) (fun i H' => ∃ us, Same H2 H' ∧ H' D2 = some (.lst us) ∧ DpAll K H' us ((ws'.take i).map fun s => .tuple [.str s, .tuple []]) ∧ us.length = i) ⟨[], same_new nD2, upd_same, .nil, rfl⟩ (fun i H' _ ⟨_, s3, _⟩ => (s12.trans s3).seq hb) ?_ ?_
    · rintro i x H4 H3 hi ⟨us, s1, eD, hus, hl⟩ ⟨rfl, hx⟩
      rw [ssV_len] at hi
      have hg := get_D hi
      have hx : V.str (ws'.getD i (PySem.Str.ofString "")) = x := Option.some.inj ((ssV_at hg).symm.trans hx)
      subst hx
      refine ⟨rfl, _, rfl, Nat.zero_le _, fun p1 np1 => ⟨by show 2 ≤ sizeLine; decide, fun p2 np2 => ?_⟩⟩
      have s2 := same_new np1 (o := .tup [])
      have s3 := same_new np2 (o := .tup [.str (ws'.getD i (PySem.Str.ofString "")), .ref p1])
      have s23 := s2.trans s3
      have dn : Dp K _ (.ref p2) (.tuple [.str (ws'.getD i (PySem.Str.ofString "")), .tuple []]) := .tup (.inl (.inl upd_same)) (.cons (.str _) (.cons (.tup (.inl (.inl (s3 _ _ upd_same))) .nil) .nil))
      have eD2 := s23 _ _ eD
      refine ⟨us, eD2, sz_lt (by omega), us ++ [.ref p2], same_set (s1.trans s23) nD2, upd_same, ?_, by rw [List.length_append, hl]; rfl⟩
      rw [take_next hg, List.map_append]
      refine dps_set eD2 ?_ (dpAll_app (dps_same s23 hus) (.cons dn .nil))
      rw [← List.map_append, ← flat_enc]
      exact noLists_enc _
    rintro H3 ⟨us2, s3, eD2, hus2, _⟩
    rw [ssV_len, List.take_length, ← flat_enc] at hus2
    refine ⟨D2, us2, rfl, .inl ⟨.inl (.inl eD2), fun p2 np2 => ?_⟩⟩
    have s4 := same_new np2 (o := .tup us2)
    have dB : Dp K (upd H3 p2 (.tup us2)) (.ref p2) (enc (flat ws')) := .tup (.inl (.inl upd_same)) (dps_same s4 hus2)
    have s34 := s3.trans s4
    generalize upd H3 p2 (.tup us2) = H4 at s34 dB ⊢
    have dA := dp_same s34 dA
    have s14 := s12.trans s34
    have z1 : (flat ws).size < 20 := by rw [flat_size]; exact l1
    have z2 : (flat ws').size < 20 := by rw [flat_size]; exact l2
    have q1 : ∀ s ∈ prw (flat ws), wordOk s = true := by rw [flat_prw]; exact o1
    have q2 : ∀ s ∈ prw (flat ws'), wordOk s = true := by rw [flat_prw]; exact o2
    refine ⟨_, rfl, _, rfl, _, rfl, _, _, vp, _, _, _, rfl, ⟨dA, ⟨39, by omega, fit_enc q1 z1⟩, dB, ⟨39, by omega, fit_enc q2 z2⟩, dp_same s14 hp, ⟨6, fit_pr ok hT⟩⟩, .inl ⟨enc_ok _ q1, enc_ok _ q2, ok.ok, flat ws, flat ws', d, m, c, Tb, rfl, rfl, rfl, z1, z2, fun H5 s5 => ?_⟩⟩
    have s15 := s14.trans s5
    refine ⟨_, rfl, _, rfl, b, _, rfl, .inl (s15.seq hb), fun l nl => ⟨_, rfl, ?_⟩⟩
    have s6 := same_new nl (o := .lst (ssV ws'))
    have s16 := s15.trans s6
    refine ⟨a, l, vp, d, m, c, Tb, ws, ws', 6, rfl, s16.seq ha, .inl (.inl upd_same), by omega, by omega, dp_same s16 hp, fit_pr ok hT, ok.ok, fun H7 s7 => ?_⟩
    exact ⟨_, _, _, 1, rfl, .int _, .int _, fit_i _ _, by omega, fun H8 s8 => q H8 (s16.trans (s7.trans s8))⟩
theorem sclawjoined : FnScope ["_law_a", "_law_b", "_law_c", "_law_price_here", "_law_prices_here", "_law_told"] ["_law_a", "_law_b", "_law_c", "_law_price_here", "_law_prices_here"] (defScope (topS 66)) := ⟨rfl, rfl, rfl, by decide +kernel, rfl, by decide +kernel, by decide +kernel⟩
def spJoined (K : PySem.W.Frag) : Sp := fun vs H Q _ => ∃ va vb vc vp A B C d m c T, vs = [va, vb, vc, .int (dist (prOf d m c T) A B), vp] ∧ Dp K H va (enc A) ∧ Dp K H vb (enc B) ∧ Dp K H vc (enc C) ∧ (∀ s ∈ prw A, wordOk s = true) ∧ (∀ s ∈ prw B, wordOk s = true) ∧ (∀ s ∈ prw C, wordOk s = true) ∧ A.size + C.size < 20 ∧ B.size + C.size < 20 ∧
  Dp K H vp (prD d m c T) ∧ PrOk d m c T ∧ T.length ≤ 1000 ∧ ∀ H', Same H H' → Q (.bl true) H'
theorem cat_enc {K : PySem.W.Frag} {va vc : V} {A C : Fo Str} {H : Hp} {Q : VK} (ha : Dp K H va (enc A)) (hc : Dp K H vc (enc C)) (z : A.size + C.size < 20) (q : ∀ H' v, Same H H' → Dp K H' v (enc (app A C)) → Q v H') : rCatA K va vc H Q := by
  obtain ⟨a, xs, rfl, hS, hA⟩ := dp_tup ha
  obtain ⟨b, ys, rfl, hS2, hA2⟩ := dp_tup hc
  have e1 := dpAll_len hA
  have e2 := dpAll_len hA2
  have k1 := encL_len A
  have k2 := encL_len C
  have hall : ∀ H', Same H H' → DpAll K H' (xs ++ ys) (encL (app A C)) := fun H' s => by
    rw [encL_app]
    exact dpAll_app (dps_same s hA) (dps_same s hA2)
  refine ⟨a, b, xs, ys, rfl, rfl, hS, hS2, sz_of (by omega), fun h => ?_, fun _ h => ?_, fun _ _ p np => ?_⟩
  · have := hall H (Same.refl H)
    rw [h, List.nil_append] at this
    exact q H _ (Same.refl H) (.tup hS2 this)
  · have := hall H (Same.refl H)
    rw [h, List.append_nil] at this
    exact q H _ (Same.refl H) (.tup hS this)
  · exact q _ _ (same_new np) (.tup (.inl (.inl upd_same)) (hall _ (same_new np)))
theorem ok_law_joined (T : Top P K mg) : FnOk P w K mg base CX0 46 T.d_law_joined.f T.d_law_joined.fd ["_law_a", "_law_b", "_law_c", "_law_price_here", "_law_prices_here"] (spJoined K) := by
  refine T.d_law_joined.F.ok sclawjoined (fun vs H Q E h => ?_) (fun cdv Ar outer s H vs Q E hr h => ?_)
  · obtain ⟨va, vb, vc, vp, A, B, C, d, m, c, T, rfl, _⟩ := h
    rfl
  · obtain ⟨va, vb, vc, vp, A, B, C, d, m, c, Tb, rfl, ha, hb, hc, o1, o2, o3, z1, z2, hp, ok, hT, q⟩ := h
    refine ⟨_, pss_cons (ps_set (i := 5) sclawjoined.nd rfl (.inl rfl) (pe_call (ok_forest_distance T) (hr.mono (by omega)) rfl T.d_forest_distance.g T.d_forest_distance.F.kp T.d_forest_distance.b .nil passL (pa_cons (pe_op op_catA (pv 0) (pv 2)) (pa_cons (pe_op op_catA (pv 1) (pv 2)) (pa_cons (pv 4) pa_nil)))))
      (pss_one (ps_ret (pe_and (pe_callB call_isi rfl T.z_isinstance (by decide +kernel) (pa_cons (pv 5) (pa_cons (pe_bltn (v := .ty "int") (by rfl) T.z_int boot_int rfl) pa_nil))) (pe_and (pe_not (pe_callB call_isi rfl T.z_isinstance (by decide +kernel) (pa_cons (pv 5) (pa_cons (pe_bltn (v := .ty "bool") (by rfl) T.z_bool boot_bool rfl) pa_nil)))) (pe_one (pe_chain op_le op_le (pe_int) (pe_callTy call_int1 rfl T.z_int (by decide +kernel) (pa_cons (pv 5) pa_nil)) (pv 3))))))), ?_⟩
    have w1 : ∀ s ∈ prw (app A C), wordOk s = true := by
      rw [app_prw]
      exact fun s hs => (List.mem_append.mp hs).elim (o1 s) (o3 s)
    have w2 : ∀ s ∈ prw (app B C), wordOk s = true := by
      rw [app_prw]
      exact fun s hs => (List.mem_append.mp hs).elim (o2 s) (o3 s)
    have y1 : (app A C).size < 20 := by rw [size_app]; exact z1
    have y2 : (app B C).size < 20 := by rw [size_app]; exact z2
    refine ⟨_, rfl, _, rfl, cat_enc ha hc z1 fun H1 v1 s1 d1 => ⟨_, rfl, _, rfl, cat_enc (dp_same s1 hb) (dp_same s1 hc) z2 fun H2 v2 s2 d2 => ?_⟩⟩
    have s12 := s1.trans s2
    refine ⟨_, rfl, v1, v2, vp, _, _, _, rfl, ⟨dp_same s2 d1, ⟨39, by omega, fit_enc w1 y1⟩, d2, ⟨39, by omega, fit_enc w2 y2⟩, dp_same s12 hp, ⟨6, fit_pr ok hT⟩⟩, .inl ⟨enc_ok _ w1, enc_ok _ w2, ok.ok, app A C, app B C, d, m, c, Tb, rfl, rfl, rfl, y1, y2, fun H3 s3 => ?_⟩⟩
    have g1 := dist_nonneg ok.nn (app A C) (app B C)
    have g2 := dist_joined ok.nn A B C
    have dd : Dp K H3 (.int (dist (prOf d m c Tb) (app A C) (app B C))) (.int (dist (prOf d m c Tb) (app A C) (app B C))) := .int _
    generalize dist (prOf d m c Tb) (app A C) (app B C) = z at g1 g2 dd ⊢
    refine ⟨_, rfl, _, _, _, _, _, rfl, .ty "int", ty_dp dd, isi_int K (.int z), _, rfl, ?_⟩
    refine iteT ⟨_, rfl, _, _, _, _, _, rfl, .ty "bool", ty_dp dd, isi_bool K (.int z), _, rfl, ?_⟩
    refine ⟨_, rfl, iteT ⟨_, rfl, .inl ⟨_, rfl, _, _, rfl, rfl, _, rfl, ?_⟩⟩⟩
    rw [decide_eq_true g1]
    refine iteT ⟨_, rfl, _, _, rfl, rfl, ?_⟩
    show Q (.bl (decide (z ≤ dist (prOf d m c Tb) A B))) H3
    rw [decide_eq_true g2]
    exact q H3 (s12.trans s3)
end
end K14
set_option maxRecDepth 100000
set_option maxHeartbeats 4000000
namespace K14
open PySem PySem.Spec PyProof.Rows L2
open Fo
theorem eqvAll_no : ∀ (l : List PyData) (x : PyData), PyData.eqvAll (l ++ [x]) [] = false
  | [], x => by simp only [List.nil_append, PyData.eqvAll]
  | a :: l, x => by simp only [List.cons_append, PyData.eqvAll]
theorem eqvAll_no2 : ∀ (l : List PyData) (x : PyData), PyData.eqvAll [] (l ++ [x]) = false
  | [], x => by simp only [List.nil_append, PyData.eqvAll]
  | a :: l, x => by simp only [List.cons_append, PyData.eqvAll]
theorem eqvAll_snoc : ∀ (xs ys : List PyData) (x y : PyData), PyData.eqvAll (xs ++ [x]) (ys ++ [y]) = (PyData.eqvAll xs ys && PyData.eqv x y)
  | [], [], x, y => by simp [PyData.eqvAll]
  | [], b :: ys, x, y => by
    simp only [List.nil_append, List.cons_append, PyData.eqvAll, eqvAll_no2, Bool.and_false, Bool.false_and]
  | a :: xs, [], x, y => by
    simp only [List.nil_append, List.cons_append, PyData.eqvAll, eqvAll_no, Bool.and_false, Bool.false_and]
  | a :: xs, b :: ys, x, y => by
    simp only [List.cons_append, PyData.eqvAll, eqvAll_snoc xs ys, Bool.and_assoc]
theorem encL_eqv : ∀ F G : Fo Str, PyData.eqvAll (encL F) (encL G) = decide (F = G)
  | .nil, .nil => by simp [encL, PyData.eqvAll]
  | .nil, .snoc s v e => by
    rw [encL, encL, eqvAll_no2]
    simp
  | .snoc r w c, .nil => by
    rw [encL, encL, eqvAll_no]
    simp
  | .snoc r w c, .snoc s v e => by
    have h1 := encL_eqv r s
    have h2 := encL_eqv c e
    have h3 : PyData.eqv (.str w) (.str v) = decide (w = v) := by rw [eqv_str, dec_str]
    rw [encL, encL, eqvAll_snoc, h1]
    simp only [PyData.eqv, PyData.eqvAll, Bool.and_true] at h3 ⊢
    rw [h2, h3]
    by_cases a : r = s <;> by_cases b : w = v <;> by_cases d : c = e <;> simp [a, b, d]
theorem enc_eqv (F G : Fo Str) : PyData.eqv (enc F) (enc G) = decide (F = G) := by
  unfold enc
  simp only [PyData.eqv]
  exact encL_eqv F G
theorem canLay_app : ∀ a b : List PyData, PyData.canLayAll0 (a ++ b) = (PyData.canLayAll0 a && PyData.canLayAll0 b)
  | [], b => by simp [PyData.canLayAll0]
  | x :: a, b => by simp only [List.cons_append, PyData.canLayAll0, canLay_app a b, Bool.and_assoc]
theorem depth_app : ∀ a b : List PyData, PyData.depthAll (a ++ b) = max (PyData.depthAll a) (PyData.depthAll b)
  | [], b => by simp [PyData.depthAll]
  | x :: a, b => by
    simp only [List.cons_append, PyData.depthAll, depth_app a b]
    omega
theorem encL_lay : ∀ F : Fo Str, (∀ s ∈ prw F, wordOk s = true) → PyData.canLayAll0 (encL F) = true ∧ PyData.depthAll (encL F) ≤ 2 * F.size
  | .nil, _ => by simp [encL, PyData.canLayAll0, PyData.depthAll]
  | .snoc r w c, h => by
    have h : ∀ s ∈ prw r ++ w :: prw c, wordOk s = true := h
    obtain ⟨a1, a2⟩ := encL_lay r fun s hs => h s (List.mem_append_left _ hs)
    obtain ⟨b1, b2⟩ := encL_lay c fun s hs => h s (List.mem_append_right _ (List.mem_cons_of_mem _ hs))
    have hw := strOk_word (h w (List.mem_append_right _ List.mem_cons_self))
    rw [encL, canLay_app, depth_app, size_snoc]
    refine ⟨by simp [PyData.canLayAll0, PyData.canLay0, a1, b1, hw], ?_⟩
    simp only [PyData.depthAll, PyData.depth]
    omega
theorem enc_shaped {F : Fo Str} (h : ∀ s ∈ prw F, wordOk s = true) (hz : F.size < 20) : SeqAt.shaped (enc F) = true := by
  obtain ⟨h1, h2⟩ := encL_lay F h
  unfold SeqAt.shaped enc
  rw [Bool.and_eq_true]
  refine ⟨by simpa only [PyData.canLay0] using h1, decide_eq_true ?_⟩
  simp only [PyData.depth]
  omega
theorem tr_lay : ∀ T : List (Str × Str × Int), (∀ t ∈ T, wordOk t.1 = true ∧ wordOk t.2.1 = true ∧ t.1 ≠ t.2.1 ∧ 0 ≤ t.2.2) → PyData.canLayAll0 (T.map trD) = true ∧ PyData.depthAll (T.map trD) ≤ 1
  | [], _ => ⟨rfl, Nat.zero_le _⟩
  | t :: r, h => by
    obtain ⟨i1, i2⟩ := tr_lay r fun z hz => h z (List.mem_cons_of_mem _ hz)
    obtain ⟨h1, h2, _⟩ := h t List.mem_cons_self
    have e1 := strOk_word h1
    have e2 := strOk_word h2
    refine ⟨?_, ?_⟩
    · simp [PyData.canLayAll0, trD, PyData.canLay0, e1, e2]
      exact i1
    · simp only [List.map_cons, PyData.depthAll, trD, PyData.depth]
      omega
theorem pr_shaped {d m c : Int} {T : List (Str × Str × Int)} (h : PrOk d m c T) : SeqAt.shaped (prD d m c T) = true := by
  obtain ⟨h1, h2⟩ := tr_lay T h.t
  unfold SeqAt.shaped prD
  rw [Bool.and_eq_true]
  refine ⟨by simpa [PyData.canLay0, PyData.canLayAll0] using h1, decide_eq_true ?_⟩
  simp only [PyData.depth, PyData.depthAll]
  omega
theorem mx_eq {i : Int} (h : (mx i == i) = true) : 1 ≤ i := by
  have := mx_ge i
  have e : mx i = i := eq_of_beq h
  omega
theorem posT_eq : ∀ T : List (Str × Str × Int), PyData.eqvAll ((posT T).map trD) (T.map trD) = true → ∀ t ∈ T, 1 ≤ t.2.2
  | [], _, t, h => nomatch h
  | u :: r, e, t, h => by
    have e : PyData.eqvAll (trD (u.1, u.2.1, mx u.2.2) :: (posT r).map trD) (trD u :: r.map trD) = true := e
    simp only [PyData.eqvAll, trD, PyData.eqv, Bool.and_eq_true] at e
    rcases List.mem_cons.mp h with h | h
    · rw [h]
      exact mx_eq e.1.2.2.1
    · exact posT_eq r e.2 t h
theorem pr_eqv {d m c : Int} {T : List (Str × Str × Int)} (e : PyData.eqv (prD (mx d) (mx m) (mx c) (posT T)) (prD d m c T) = true) : 1 ≤ d ∧ 1 ≤ m ∧ 1 ≤ c ∧ ∀ t ∈ T, 1 ≤ t.2.2 := by
  unfold prD at e
  simp only [PyData.eqvAll, PyData.eqv, Bool.and_eq_true] at e
  obtain ⟨e1, e2, e3, e4, _⟩ := e
  exact ⟨mx_eq e1, mx_eq e2, mx_eq e3, posT_eq T e4⟩
theorem zero_iff {d m c : Int} {T : List (Str × Str × Int)} (h : PrOk d m c T) (e : PyData.eqv (prD (mx d) (mx m) (mx c) (posT T)) (prD d m c T) = true) (F G : Fo Str) : decide (dist (prOf d m c T) F G = 0) = decide (F = G) := by
  obtain ⟨e1, e2, e3, e4⟩ := pr_eqv e
  by_cases q : F = G
  · subst q
    rw [dist_self h.nn, decide_eq_true rfl, decide_eq_true rfl]
  · rw [decide_eq_false q]
    exact decide_eq_false fun z => q (eq_of_dist h.nn e1 e2 (fun a b ab => chOf_ge e3 T e4 a b ab) F G z)
theorem turned_dist (d m c : Int) (T : List (Str × Str × Int)) (F G : Fo Str) : dist (prOf m d c (turnT T)) G F = dist (prOf d m c T) F G := by
  have e : prOf m d c (turnT T) = (prOf d m c T).turn := prOf_turn d m c T
  rw [e, dist_turn]
theorem turnT_take (T : List (Str × Str × Int)) {i : Nat} {t : Str × Str × Int} (h : T[i]? = some t) : turnT (T.take (i + 1)) = turnT (T.take i) ++ [(t.2.1, t.1, t.2.2)] := by
  rw [take_next h]
  unfold turnT
  rw [List.map_append]
  rfl
theorem mir_prw_mem : ∀ (F : Fo Str) (s : Str), s ∈ prw (mir F) → s ∈ prw F
  | .nil, _, h => h
  | .snoc r w c, s, h => by
    have h : s ∈ prw (app (snoc nil w (mir c)) (mir r)) := h
    rw [app_prw] at h
    show s ∈ prw r ++ w :: prw c
    rcases List.mem_append.mp h with h | h
    · rcases List.mem_cons.mp (show s ∈ w :: prw (mir c) from h) with h | h
      · rw [h]
        exact List.mem_append_right _ List.mem_cons_self
      · exact List.mem_append_right _ (List.mem_cons_of_mem _ (mir_prw_mem c s h))
    · exact List.mem_append_left _ (mir_prw_mem r s h)
theorem mir_size : ∀ F : Fo Str, (mir F).size = F.size
  | .nil => rfl
  | .snoc r w c => by
    show (app (snoc nil w (mir c)) (mir r)).size = _
    rw [size_app, size_snoc, size_snoc, size_nil, mir_size r, mir_size c]
    omega
/-- a box that was made later than H changes: H stays -/
theorem same_but {H H1 H2 : Hp} {b : Addr} (s : Same H H1) (n : H b = none) (d : But1 b H1 H2) : Same H H2 := fun c o h => d _ _ (s _ _ h) (ne_of_none h n)
end K14
set_option maxRecDepth 100000
set_option maxHeartbeats 8000000
namespace K14
open PySem PySem.Spec PyProof.Rows L2
open Fo
structure LawSt (K : PySem.W.Frag) (a : Addr) (ns : List Int) (f1 lw lp f2 lw' lp' : Addr) (F F' : Fo Str) (vp : V) (d m c : Int) (T : List (Str × Str × Int)) (H : Hp) : Prop where
  sc : SqL K H a (isV ns)
  e1 : H f1 = some (.tup [.ref lw, .ref lp])
  w1 : H lw = some (.lst (ssV (prw F)))
  p1 : H lp = some (.lst (isV (prw (parF (-1) 0 F))))
  e2 : H f2 = some (.tup [.ref lw', .ref lp'])
  w2 : H lw' = some (.lst (ssV (prw F')))
  p2 : H lp' = some (.lst (isV (prw (parF (-1) 0 F'))))
  pr : Dp K H vp (prD d m c T)
theorem LawSt.same {K : PySem.W.Frag} {a : Addr} {ns : List Int} {f1 lw lp f2 lw' lp' : Addr} {F F' : Fo Str} {vp : V} {d m c : Int} {T : List (Str × Str × Int)} {H H' : Hp} (h : LawSt K a ns f1 lw lp f2 lw' lp' F F' vp d m c T H) (s : Same H H') : LawSt K a ns f1 lw lp f2 lw' lp' F F' vp d m c T H' :=
  ⟨s.seq h.sc, s _ _ h.e1, s _ _ h.w1, s _ _ h.p1, s _ _ h.e2, s _ _ h.w2, s _ _ h.p2, dp_same s h.pr⟩
theorem par_is {ws : List Str} {ps : List Int} (h : ParsOf ws.length ps) : ∃ F : Fo Str, prw F = ws ∧ prw (parF (-1) 0 F) = ps ∧ F.size = ws.length := by
  obtain ⟨hl, ch, hp⟩ := h
  obtain ⟨F, h1, h2, _⟩ := hp ws hl.symm
  exact ⟨F, h1, h2, by rw [← h1, prw_len]⟩
theorem mosts {z : Nat} (h : z < 4) : ∃ most : Nat, atI [V.int 5, .int 7, .int 7, .int 12] (z : Int) = some (.int (most : Int)) ∧ (most = 5 ∨ most = 7 ∨ most = 12) := by
  rcases (show z = 0 ∨ z = 1 ∨ z = 2 ∨ z = 3 by omega) with rfl | rfl | rfl | rfl
  · exact ⟨5, atI_nat rfl, by omega⟩
  · exact ⟨7, atI_nat rfl, by omega⟩
  · exact ⟨7, atI_nat rfl, by omega⟩
  · exact ⟨12, atI_nat rfl, by omega⟩
section
variable {P : Program} {w : World} {K : PySem.W.Frag} {mg : Str → Option Value} {base : Heap}
theorem sclaw : FnScope ["_law_script", "_law_box_here", "_law_far", "_law_most", "_law_parents_here", "_law_first", "_law_second", "_law_words", "_law_prices_here", "_law_turned", "_law_a", "_law_b", "_law_due", "_law_mirrored_here", "_law_bad_here", "_law_other_here", "_law_k", "_law_row"] ["_law_script"] (defScope (topS 67)) := ⟨rfl, rfl, rfl, by decide +kernel, rfl, by decide +kernel, by decide +kernel⟩
def spLaw (K : PySem.W.Frag) : Sp := fun vs H Q _ => ∃ (a : Addr) (ns : List Int), vs = [.ref a] ∧ SqL K H a (ns.map V.int) ∧ ns.length ≤ 63 ∧ ∀ H', Q (.bl true) H'
theorem ok_law (T : Top P K mg) : FnOk P w K mg base CX0 48 T.d_law.f T.d_law.fd ["_law_script"] (spLaw K) := by
  refine T.d_law.F.ok sclaw (fun vs H Q E h => ?_) (fun cdv Ar outer s H vs Q E hr h => ?_)
  · obtain ⟨a, ns, rfl, _⟩ := h
    rfl
  · obtain ⟨a, ns, rfl, hS, _, q⟩ := h
    refine ⟨_, pss_cons (ps_set (i := 1) sclaw.nd rfl (.inr rfl) (pe_call (ok_law_box T) (hr.mono (by omega)) rfl T.d_law_box.g T.d_law_box.F.kp T.d_law_box.b .nil pass0 (pa_cons (pv 0) (pa_cons (pe_int) pa_nil))))
      (pss_cons (ps_set (i := 2) sclaw.nd rfl (.inl rfl) (pe_call (ok_law_box T) (hr.mono (by omega)) rfl T.d_law_box.g T.d_law_box.F.kp T.d_law_box.b .nil pass0 (pa_cons (pv 0) (pa_cons (pe_int) pa_nil))))
      (pss_cons (ps_set (i := 3) sclaw.nd rfl (.inl rfl) (pe_ix ix_list (pe_lst (pa_cons (pe_int) (pa_cons (pe_int) (pa_cons (pe_int) (pa_cons (pe_int) pa_nil))))) (pe_call (ok_law_draw T) (hr.mono (by omega)) rfl T.d_law_draw.g T.d_law_draw.F.kp T.d_law_draw.b .nil pass0 (pa_cons (pv 1) (pa_cons (pe_int) pa_nil))) (fun _ _ => rfl)))
      (pss_cons (ps_set (i := 4) sclaw.nd rfl (.inl rfl) (pe_call (ok_law_parents T) (hr.mono (by omega)) rfl T.d_law_parents.g T.d_law_parents.F.kp T.d_law_parents.b .nil pass0 (pa_cons (pv 1) (pa_cons (pe_call (ok_law_draw T) (hr.mono (by omega)) rfl T.d_law_draw.g T.d_law_draw.F.kp T.d_law_draw.b .nil pass0 (pa_cons (pv 1) (pa_cons (pe_op op_add (pv 3) (pe_int)) pa_nil))) pa_nil))))
      (pss_cons (ps_set (i := 5) sclaw.nd rfl (.inl rfl) (pe_tup (pa_cons (pe_lc (own := [("_law_k", 16)]) (g := gName 16) (tt := tYes) rfl sclaw.nd (pi_range1 rfl T.z_range (pa_cons (pe_callB call_len_seq rfl T.z_len PySem.boot_len (pa_cons (pv 4) pa_nil)) pa_nil)) (blkOk_by (own := [("_law_k", 16)]) (N := ["_law_script", "_law_box_here", "_law_far", "_law_most", "_law_parents_here", "_law_first", "_law_second", "_law_words", "_law_prices_here", "_law_turned", "_law_a", "_law_b", "_law_due", "_law_mirrored_here", "_law_bad_here", "_law_other_here", "_law_k", "_law_row"]) (sc := defScope (topS 67)) (by decide +kernel)) (fun _ _ _ _ _ => pg_name (i := 16) sclaw.nd rfl (.inl rfl)) (fun _ _ _ _ _ => pts_nil) (fun _ _ _ _ _ => pe_call (ok_law_word T) (hr.mono (by omega)) rfl T.d_law_word.g T.d_law_word.F.kp T.d_law_word.b .nil pass0 (pa_cons (pv 1) pa_nil))) (pa_cons (pv 4) pa_nil))))
      (pss_cons (ps_set (i := 6) sclaw.nd rfl (.inl rfl) (pe_call (ok_law_other T) (hr.mono (by omega)) rfl T.d_law_other.g T.d_law_other.F.kp T.d_law_other.b .nil pass0 (pa_cons (pv 2) (pa_cons (pe_ix ix_tup (pv 5) (pe_int) (fun _ _ => rfl)) (pa_cons (pe_ix ix_tup (pv 5) (pe_int) (fun _ _ => rfl)) (pa_cons (pv 3) pa_nil))))))
      (pss_cons (ps_set (i := 7) sclaw.nd rfl (.inl rfl) (pe_op op_cat (pe_op op_cat (pe_ix ix_tup (pv 5) (pe_int) (fun _ _ => rfl)) (pe_ix ix_tup (pv 6) (pe_int) (fun _ _ => rfl))) (pe_lst (pa_cons (pe_str) (pa_cons (pe_str) pa_nil)))))
      (pss_cons (ps_set (i := 8) sclaw.nd rfl (.inl rfl) (pe_call (ok_law_prices T) (hr.mono (by omega)) rfl T.d_law_prices.g T.d_law_prices.F.kp T.d_law_prices.b .nil pass0 (pa_cons (pe_call (ok_law_box T) (hr.mono (by omega)) rfl T.d_law_box.g T.d_law_box.F.kp T.d_law_box.b .nil pass0 (pa_cons (pv 0) (pa_cons (pe_int) pa_nil))) (pa_cons (pv 7) pa_nil))))
      (Evl.pss_cut (ps_if (pt_cmpR op_eq (pe_call (ok_law_draw T) (hr.mono (by omega)) rfl T.d_law_draw.g T.d_law_draw.F.kp T.d_law_draw.b .nil pass0 (pa_cons (pv 2) (pa_cons (pe_int) pa_nil))) (pe_int) (nomark _))
      (pss_one (ps_set (i := 8) sclaw.nd rfl (.inl rfl) (pe_call (ok_law_positive T) (hr.mono (by omega)) rfl T.d_law_positive.g T.d_law_positive.F.kp T.d_law_positive.b .nil pass0 (pa_cons (pv 8) pa_nil))))
      (pss_nil))
      (pss_cons (ps_set (i := 9) sclaw.nd rfl (.inl rfl) (pe_tup (pa_cons (pe_ix ix_tup (pv 8) (pe_int) (fun _ _ => rfl)) (pa_cons (pe_ix ix_tup (pv 8) (pe_int) (fun _ _ => rfl)) (pa_cons (pe_ix ix_tup (pv 8) (pe_int) (fun _ _ => rfl)) (pa_cons (pe_callTy call_tuple_of rfl T.z_tuple (by decide +kernel) (pa_cons (pe_lc (own := [("_law_row", 17)]) (g := gName 17) (tt := tYes) rfl sclaw.nd (pi_tup (pe_ix ix_tup (pv 8) (pe_int) (fun _ _ => rfl))) (blkOk_by (own := [("_law_row", 17)]) (N := ["_law_script", "_law_box_here", "_law_far", "_law_most", "_law_parents_here", "_law_first", "_law_second", "_law_words", "_law_prices_here", "_law_turned", "_law_a", "_law_b", "_law_due", "_law_mirrored_here", "_law_bad_here", "_law_other_here", "_law_k", "_law_row"]) (sc := defScope (topS 67)) (by decide +kernel)) (fun _ _ _ _ _ => pg_name (i := 17) sclaw.nd rfl (.inl rfl)) (fun _ _ _ _ _ => pts_nil) (fun _ _ _ _ _ => pe_tup (pa_cons (pe_ix (ixT (K := K) rfl) (pv 17) (pe_int) (fun _ _ => rfl)) (pa_cons (pe_ix (ixT (K := K) rfl) (pv 17) (pe_int) (fun _ _ => rfl)) (pa_cons (pe_ix (ixT (K := K) rfl) (pv 17) (pe_int) (fun _ _ => rfl)) pa_nil))))) pa_nil)) pa_nil))))))
      (pss_cons (ps_set (i := 10) sclaw.nd rfl (.inl rfl) (pe_call (ok_law_forest T) (hr.mono (by omega)) rfl T.d_law_forest.g T.d_law_forest.F.kp T.d_law_forest.b .nil pass0 (pa_cons (pe_ix ix_tup (pv 5) (pe_int) (fun _ _ => rfl)) (pa_cons (pe_ix ix_tup (pv 5) (pe_int) (fun _ _ => rfl)) pa_nil))))
      (pss_cons (ps_set (i := 11) sclaw.nd rfl (.inl rfl) (pe_call (ok_law_forest T) (hr.mono (by omega)) rfl T.d_law_forest.g T.d_law_forest.F.kp T.d_law_forest.b .nil pass0 (pa_cons (pe_ix ix_tup (pv 6) (pe_int) (fun _ _ => rfl)) (pa_cons (pe_ix ix_tup (pv 6) (pe_int) (fun _ _ => rfl)) pa_nil))))
      (pss_cons (ps_set (i := 12) sclaw.nd rfl (.inl rfl) (pe_call (ok_law_distance T) (hr.mono (by omega)) rfl T.d_law_distance.g T.d_law_distance.F.kp T.d_law_distance.b .nil pass0 (pa_cons (pv 5) (pa_cons (pv 6) (pa_cons (pv 8) pa_nil)))))
      (pss_cons (ps_if (pt_not (pt_val (pe_call (ok_law_alike T) (hr.mono (by omega)) rfl T.d_law_alike.g T.d_law_alike.F.kp T.d_law_alike.b .nil pass0 (pa_cons (pe_call (ok_law_asked T) (hr.mono (by omega)) rfl T.d_law_asked.g T.d_law_asked.F.kp T.d_law_asked.b .nil pass0 (pa_cons (pv 10) (pa_cons (pv 11) (pa_cons (pv 8) pa_nil)))) (pa_cons (pe_tup (pa_cons (pe_str) (pa_cons (pv 12) pa_nil))) pa_nil)))))
      (pss_one (ps_ret (pe_bl)))
      (pss_nil))
      (pss_cons (ps_if (pt_not (pt_val (pe_call (ok_law_alike T) (hr.mono (by omega)) rfl T.d_law_alike.g T.d_law_alike.F.kp T.d_law_alike.b .nil pass0 (pa_cons (pe_callK0 (ok_forest_distance T) (hr.mono (by omega)) rfl T.d_forest_distance.g T.d_forest_distance.F.kp T.k_forest_distance passL (pk_cons (pv 9) (pk_cons (pv 10) (pk_cons (pv 11) (pk_nil))))) (pa_cons (pv 12) pa_nil)))))
      (pss_one (ps_ret (pe_bl)))
      (pss_nil))
      (pss_cons (ps_if (pt_not (pt_val (pe_call (ok_law_alike T) (hr.mono (by omega)) rfl T.d_law_alike.g T.d_law_alike.F.kp T.d_law_alike.b .nil pass0 (pa_cons (pe_call (ok_forest_distance T) (hr.mono (by omega)) rfl T.d_forest_distance.g T.d_forest_distance.F.kp T.d_forest_distance.b .nil passL (pa_cons (pv 10) (pa_cons (pv 10) (pa_cons (pv 8) pa_nil)))) (pa_cons (pe_int) pa_nil)))))
      (pss_one (ps_ret (pe_bl)))
      (pss_nil))
      (Evl.pss_cut (ps_if (PW.pt (pw_and (pt_cmpR (op_eqD hr.units) (pe_call (ok_law_positive T) (hr.mono (by omega)) rfl T.d_law_positive.g T.d_law_positive.F.kp T.d_law_positive.b .nil pass0 (pa_cons (pv 8) pa_nil)) (pv 8) (nomark _)) (pw_and1 (pt_cmpR op_ne (pe_cmpR op_eq (pv 12) (pe_int) (nomark _)) (pe_cmpR (op_eqD hr.units) (pv 10) (pv 11) (nomark _)) (nomark _)))))
      (pss_one (ps_ret (pe_bl)))
      (pss_nil))
      (pss_cons (ps_set (i := 13) sclaw.nd rfl (.inl rfl) (pe_call (ok_law_mirrored T) (hr.mono (by omega)) rfl T.d_law_mirrored.g T.d_law_mirrored.F.kp T.d_law_mirrored.b .nil pass0 (pa_cons (pe_ix ix_tup (pv 5) (pe_int) (fun _ _ => rfl)) (pa_cons (pe_ix ix_tup (pv 5) (pe_int) (fun _ _ => rfl)) pa_nil))))
      (pss_cons (ps_if (pt_not (pt_val (pe_call (ok_law_alike T) (hr.mono (by omega)) rfl T.d_law_alike.g T.d_law_alike.F.kp T.d_law_alike.b .nil pass0 (pa_cons (pe_call (ok_forest_distance T) (hr.mono (by omega)) rfl T.d_forest_distance.g T.d_forest_distance.F.kp T.d_forest_distance.b .nil passL (pa_cons (pv 13) (pa_cons (pe_call (ok_law_mirrored T) (hr.mono (by omega)) rfl T.d_law_mirrored.g T.d_law_mirrored.F.kp T.d_law_mirrored.b .nil pass0 (pa_cons (pe_ix ix_tup (pv 6) (pe_int) (fun _ _ => rfl)) (pa_cons (pe_ix ix_tup (pv 6) (pe_int) (fun _ _ => rfl)) pa_nil))) (pa_cons (pv 8) pa_nil)))) (pa_cons (pv 12) pa_nil)))))
      (pss_one (ps_ret (pe_bl)))
      (pss_nil))
      (Evl.pss_cut (ps_if (PW.pt (pw_and (pt_cmpR op_lt (pv 3) (pe_int) (nomark _)) (pw_and1 (pt_not (pt_val (pe_call (ok_law_flat T) (hr.mono (by omega)) rfl T.d_law_flat.g T.d_law_flat.F.kp T.d_law_flat.b .nil pass0 (pa_cons (pe_ix ix_tup (pv 5) (pe_int) (fun _ _ => rfl)) (pa_cons (pe_ix ix_tup (pv 6) (pe_int) (fun _ _ => rfl)) (pa_cons (pv 8) pa_nil)))))))))
      (pss_one (ps_ret (pe_bl)))
      (pss_nil))
      (Evl.pss_cut (ps_if (PW.pt (pw_and (pt_cmpR op_eq (pv 3) (pe_int) (nomark _)) (pw_and1 (pt_not (pt_val (pe_call (ok_law_joined T) (hr.mono (by omega)) rfl T.d_law_joined.g T.d_law_joined.F.kp T.d_law_joined.b .nil pass0 (pa_cons (pv 10) (pa_cons (pv 11) (pa_cons (pe_call (ok_law_forest T) (hr.mono (by omega)) rfl T.d_law_forest.g T.d_law_forest.F.kp T.d_law_forest.b .nil pass0 (pa_cons (pe_ix ix_tup (pv 6) (pe_int) (fun _ _ => rfl)) (pa_cons (pe_ix ix_tup (pv 6) (pe_int) (fun _ _ => rfl)) pa_nil))) (pa_cons (pv 12) (pa_cons (pv 8) pa_nil)))))))))))
      (pss_one (ps_ret (pe_bl)))
      (pss_nil))
      (pss_cons (ps_set (i := 14) sclaw.nd rfl (.inl rfl) (pe_call (ok_law_bad T) (hr.mono (by omega)) rfl T.d_law_bad.g T.d_law_bad.F.kp T.d_law_bad.b .nil pass0 (pa_cons (pe_call (ok_law_box T) (hr.mono (by omega)) rfl T.d_law_box.g T.d_law_box.F.kp T.d_law_box.b .nil pass0 (pa_cons (pv 0) (pa_cons (pe_int) pa_nil))) (pa_cons (pe_ix ix_tup (pv 5) (pe_int) (fun _ _ => rfl)) (pa_cons (pe_ix ix_tup (pv 5) (pe_int) (fun _ _ => rfl)) pa_nil)))))
      (pss_cons (ps_set (i := 15) sclaw.nd rfl (.inl rfl) (pe_call (ok_law_bad T) (hr.mono (by omega)) rfl T.d_law_bad.g T.d_law_bad.F.kp T.d_law_bad.b .nil pass0 (pa_cons (pe_call (ok_law_box T) (hr.mono (by omega)) rfl T.d_law_box.g T.d_law_box.F.kp T.d_law_box.b .nil pass0 (pa_cons (pv 0) (pa_cons (pe_int) pa_nil))) (pa_cons (pe_ix ix_tup (pv 6) (pe_int) (fun _ _ => rfl)) (pa_cons (pe_ix ix_tup (pv 6) (pe_int) (fun _ _ => rfl)) pa_nil)))))
      (pss_one (ps_ret (pe_call (ok_law_refused T) (hr.mono (by omega)) rfl T.d_law_refused.g T.d_law_refused.F.kp T.d_law_refused.b .nil pass0 (pa_cons (pv 10) (pa_cons (pv 11) (pa_cons (pv 8) (pa_cons (pv 14) (pa_cons (pv 15) (pa_cons (pe_call (ok_law_bad_prices T) (hr.mono (by omega)) rfl T.d_law_bad_prices.g T.d_law_bad_prices.F.kp T.d_law_bad_prices.b .nil pass0 (pa_cons (pe_call (ok_law_box T) (hr.mono (by omega)) rfl T.d_law_box.g T.d_law_box.F.kp T.d_law_box.b .nil pass0 (pa_cons (pv 0) (pa_cons (pe_int) pa_nil))) (pa_cons (pv 8) pa_nil))) pa_nil))))))))))))))))))))))))))))))), ?_⟩
    have hS : SqL K H a (isV ns) := hS
    refine ⟨_, rfl, a, 0, ns, rfl, hS, fun H1 b1 s1 nb1 eb1 => ?_⟩
    refine ⟨_, rfl, a, 1, ns, rfl, s1.seq hS, fun H2 b2 s2 nb2 eb2 => ?_⟩
    have n12 : b1 ≠ b2 := eb1.ne nb2
    have nb2H : H b2 = none := s1.free nb2
    have s12 := s1.trans s2
    -- most
    refine ⟨sizeOk (Nat.le_of_ble_eq_true rfl), fun W nW => ?_⟩
    have sW : Same H2 (upd H2 W (.lst [.int 5, .int 7, .int 7, .int 12])) := same_new nW
    have eW : (upd H2 W (.lst [.int 5, .int 7, .int 7, .int 12])) W = some (.lst [.int 5, .int 7, .int 7, .int 12]) := upd_same
    have nWb : W ≠ b1 := ((eb1.same s2).ne nW).symm
    refine ⟨_, rfl, b1, 4, rfl, (eb1.same s2).same sW, by decide, by decide, fun z H3 hz d3 e3 => ?_⟩
    obtain ⟨most, hat, hmost⟩ := mosts hz
    have hm12 : most ≤ 12 := by omega
    refine ⟨W, _, _, .int (most : Int), rfl, rfl, .inl (.inl (d3 _ _ eW nWb)), hat, ?_⟩
    have sH3 : Same H H3 := same_but (s12.trans sW) nb1 d3
    have eb2 := (eb2.same sW).keep d3 n12.symm
    -- parents
    refine ⟨_, rfl, _, rfl, _, rfl, _, _, rfl, rfl, b1, most + 1, rfl, e3, by omega, by omega, fun z4 H4 hz4 d4 e4 => ⟨b1, z4, rfl, e4, by omega, fun H5 lp ps d5 e5 nlp elp pars => ?_⟩⟩
    have sH4 : Same H H4 := same_but sH3 nb1 d4
    have eb2 := eb2.keep d4 n12.symm
    have nlp2 : lp ≠ b2 := (eb2.ne nlp).symm
    have nlp1 : lp ≠ b1 := (e4.ne nlp).symm
    have sH5 : Same H H5 := same_but sH4 nb1 d5
    have eb2 := eb2.keep d5 n12.symm
    have hpl : ps.length = z4 := pars.1
    -- the words
    refine ⟨_, rfl, lp, _, rfl, .inl (.inl (.inl elp)), (ps.length : Int), by rw [isV_len], by omega, by omega, fun D nD => ?_⟩
    rw [Int.toNat_natCast]
    have nD1 : D ≠ b1 := (e5.ne nD).symm
    have nD2 : D ≠ b2 := (eb2.ne nD).symm
    refine lc_it walk_range (fun i H' => ∃ l : List Str, l.length = i ∧ (∀ s ∈ l, wordOk s = true) ∧ But1 b1 H5 H' ∧ BoxAt H' b1 ∧ H' D = some (.lst (ssV l))) ⟨[], rfl, (fun _ h => nomatch h), but_of (same_new nD), e5.same (same_new nD), upd_same⟩ (fun _ _ _ _ => trivial) ?_ ?_
    · rintro i x K6 K5 hi ⟨us, hl, hu, b5, g5, ed⟩ ⟨rfl, _⟩
      refine ⟨rfl, _, rfl, b1, rfl, g5, fun s K7 hs b7 e7 => ⟨_, b7 _ _ ed nD1, by rw [ssV_len]; exact sz_lt (by omega), us ++ [s], by rw [List.length_append, hl]; rfl, fun t ht => ?_, (b5.trans b7).put nD, e7.keep but_set nD1.symm, by rw [upd_same, ssV_app]; rfl⟩⟩
      rcases List.mem_append.mp ht with ht | ht
      · exact hu t ht
      · rw [List.mem_singleton.mp ht]
        exact hs
    rintro H6 ⟨ws, hwl, okw, d6, e6, eD⟩
    have sH6 : Same H H6 := same_but sH5 nb1 d6
    have eb2 := eb2.keep d6 n12.symm
    have elp := d6 _ _ elp nlp1
    refine ⟨_, rfl, by show 2 ≤ sizeLine; decide, fun f1 nf1 => ?_⟩
    have s7 : Same H6 (upd H6 f1 (.tup [.ref D, .ref lp])) := same_new nf1
    have ef1 : (upd H6 f1 (.tup [.ref D, .ref lp])) f1 = some (.tup [.ref D, .ref lp]) := upd_same
    have nf2 : f1 ≠ b2 := (eb2.ne nf1).symm
    generalize upd H6 f1 (.tup [.ref D, .ref lp]) = H7 at s7 ef1 ⊢
    have sH7 := sH6.trans s7
    have eb2 := eb2.same s7
    have elp := s7 _ _ elp
    have eD := s7 _ _ eD
    have par1 : ParsOf ws.length ps := ⟨by omega, pars.2⟩
    -- the other
    refine ⟨_, rfl, _, rfl, f1, _, 0, .ref D, rfl, rfl, .inl (.inl ef1), atI_nat (j := 0) rfl, _, rfl, f1, _, 1, .ref lp, rfl, rfl, .inl (.inl ef1), atI_nat (j := 1) rfl, _, rfl, b2, D, lp, most, ws, ps, rfl, eb2, eD, elp, nD2, nlp2, okw, par1, by omega, by omega, fun H8 f2 lr ls ws' ps' d8 e8 ef2 er es nlr nls okw' par2 le2 => ?_⟩
    have nlr2 : lr ≠ b2 := (eb2.ne nlr).symm
    have nls2 : ls ≠ b2 := (eb2.ne nls).symm
    have sH8 : Same H H8 := same_but sH7 nb2H d8
    have ef1 := d8 _ _ ef1 nf2
    have eD := d8 _ _ eD nD2
    have elp := d8 _ _ elp nlp2
    obtain ⟨F, hF1, hF2, hF3⟩ := par_is par1
    obtain ⟨F', hG1, hG2, hG3⟩ := par_is par2
    -- the words for the prices
    refine ⟨_, rfl, f1, _, 0, .ref D, rfl, rfl, .inl (.inl ef1), atI_nat (j := 0) rfl, _, rfl, f2, _, 0, .ref lr, rfl, rfl, .inl (.inl ef2), atI_nat (j := 0) rfl, D, lr, _, _, rfl, rfl, eD, er, by rw [ssV_len, ssV_len]; exact sz_of (by omega), fun W1 nW1 => ⟨by show 2 ≤ sizeLine; decide, fun W2 nW2 => ?_⟩⟩
    have s9 : Same H8 (upd H8 W1 (.lst (ssV ws ++ ssV ws'))) := same_new nW1
    have s10 := same_new nW2 (o := .lst [.str (PySem.Str.ofString "a"), .str (PySem.Str.ofString "b")])
    refine ⟨W1, W2, _, _, rfl, rfl, s10 _ _ upd_same, upd_same, by rw [List.length_append, ssV_len, ssV_len]; exact sz_of (by show _ + 2 ≤ _; omega), fun W3 nW3 => ?_⟩
    have s11 := same_new nW3 (o := .lst (ssV ws ++ ssV ws' ++ [.str (PySem.Str.ofString "a"), .str (PySem.Str.ofString "b")]))
    have eW3 : (upd (upd (upd H8 W1 (.lst (ssV ws ++ ssV ws'))) W2 (.lst [.str (PySem.Str.ofString "a"), .str (PySem.Str.ofString "b")])) W3 (.lst (ssV ws ++ ssV ws' ++ [.str (PySem.Str.ofString "a"), .str (PySem.Str.ofString "b")]))) W3 = some (.lst (ssV (ws ++ ws' ++ [PySem.Str.ofString "a", PySem.Str.ofString "b"]))) := by
      rw [upd_same, ssV_app, ssV_app]
      rfl
    have s811 := s9.trans (s10.trans s11)
    generalize upd (upd (upd H8 W1 (.lst (ssV ws ++ ssV ws'))) W2 (.lst [.str (PySem.Str.ofString "a"), .str (PySem.Str.ofString "b")])) W3 (.lst (ssV ws ++ ssV ws' ++ [.str (PySem.Str.ofString "a"), .str (PySem.Str.ofString "b")])) = H9 at eW3 s811 ⊢
    have sH9 := sH8.trans s811
    have okab : wordOk (PySem.Str.ofString "a") = true ∧ wordOk (PySem.Str.ofString "b") = true := by decide +kernel
    have okall : ∀ s ∈ ws ++ ws' ++ [PySem.Str.ofString "a", PySem.Str.ofString "b"], wordOk s = true := fun s hs => by
      rcases List.mem_append.mp hs with hs | hs
      · rcases List.mem_append.mp hs with hs | hs
        · exact okw s hs
        · exact okw' s hs
      · rcases List.mem_cons.mp hs with hs | hs
        · rw [hs]
          exact okab.1
        · rw [List.mem_singleton.mp hs]
          exact okab.2
    have hwl3 : (ws ++ ws' ++ [PySem.Str.ofString "a", PySem.Str.ofString "b"]).length = ws.length + ws'.length + 2 := by
      rw [List.length_append, List.length_append]
      rfl
    refine ⟨_, rfl, a, 2, ns, rfl, sH9.seq hS, fun H10 b3 s12' nb3 eb3 => ⟨_, rfl, b3, W3, _, rfl, eb3, s12' _ _ eW3, ne_of_none eW3 nb3, okall, by omega, by omega, fun H11 vp d m c Tb d11 e11 dp prok plen => ?_⟩⟩
    have s811' : Same H8 H11 := same_but (s811.trans s12') (s811.free nb3) d11
    have sH11 := sH8.trans s811'
    have eb2 := e8.same s811'
    rw [← hF1] at eD okw
    rw [← hF2] at elp
    rw [← hG1] at er okw'
    rw [← hG2] at es
    have st11 : LawSt K a ns f1 D lp f2 lr ls F F' vp d m c Tb H11 := ⟨sH11.seq hS, s811' _ _ ef1, s811' _ _ eD, s811' _ _ elp, s811' _ _ ef2, s811' _ _ er, s811' _ _ es, dp⟩
    have z1 : F.size ≤ 12 := by omega
    have z2 : F'.size ≤ 12 := by omega
    have zm1 : F.size ≤ most := by omega
    have zm2 : F'.size ≤ most := by omega
    clear s1 s2 s12 sW eW nWb hat sH3 d3 e3 d4 e4 d5 e5 sH4 sH5 sH6 d6 e6 s7 sH7 d8 e8 sH8 s9 s10 s11 eW3 s811 sH9 s12' d11 e11 s811'
    -- positive prices
    refine ⟨fun σ H' => ∃ vp d m c Tb, σ = [some (.ref a), some (.ref b1), some (.ref b2), some (.int (most : Int)), some (.ref lp), some (.ref f1), some (.ref f2), some (.ref W3), some vp, none, none, none, none, none, none, none, none, none] ∧ LawSt K a ns f1 D lp f2 lr ls F F' vp d m c Tb H' ∧ PrOk d m c Tb ∧ Tb.length ≤ 7, ?_, ?_⟩
    · refine ⟨_, rfl, b2, 2, rfl, eb2, by decide, by decide, fun z H12 hz d12 e12 => ⟨rfl, _, rfl, ?_⟩⟩
      have st12 : LawSt K a ns f1 D lp f2 lr ls F F' vp d m c Tb H12 := by
        have sT : SameT H11 H12 := eb2.sameT d12
        exact ⟨(same_but sH11 nb2H d12).seq hS, sT _ _ st11.e1 trivial, d12 _ _ st11.w1 nD2, d12 _ _ st11.p1 nlp2, sT _ _ st11.e2 trivial, d12 _ _ st11.w2 nlr2, d12 _ _ st11.p2 nls2, dp_sameT sT (noList_pr _ _ _ _) st11.pr⟩
      rw [dec_nat0]
      by_cases h0 : z = 0
      · rw [decide_eq_true h0]
        refine iteT ⟨_, rfl, vp, d, m, c, Tb, rfl, st12.pr, by omega, fun H13 u s13 du => ?_⟩
        have st13 := st12.same s13
        exact ⟨u, mx d, mx m, mx c, posT Tb, rfl, ⟨st13.sc, st13.e1, st13.w1, st13.p1, st13.e2, st13.w2, st13.p2, du⟩, prok.pos, by unfold posT; rw [List.length_map]; exact plen⟩
      · rw [decide_eq_false h0]
        exact iteF ⟨vp, d, m, c, Tb, rfl, st12, prok, plen⟩
    rintro σ H12 ⟨vp, d, m, c, Tb, rfl, st, prok, plen⟩
    clear st11 sH11 dp eb2 eb1
    -- turned
    obtain ⟨ap, tp, xs, rfl, hSp, hTp, hAp⟩ := dp_prices st.pr
    have hxl := dpAll_len hAp
    rw [List.length_map] at hxl
    refine ⟨_, rfl, ap, _, 1, _, rfl, rfl, hSp, atI_nat (j := 1) rfl, _, rfl, ap, _, 0, _, rfl, rfl, hSp, atI_nat (j := 0) rfl, _, rfl, ap, _, 2, _, rfl, rfl, hSp, atI_nat (j := 2) rfl, _, rfl, ap, _, 3, .ref tp, rfl, rfl, hSp, atI_nat (j := 3) rfl, tp, rfl, ⟨xs, hTp⟩, fun DT nDT => ?_⟩
    refine lc_it (walk_tup (K := K) (xs := xs)) (fun i H' => ∃ us, Same H12 H' ∧ H' DT = some (.lst us) ∧ DpAll K H' us ((turnT (Tb.take i)).map trD) ∧ us.length = i) ⟨[], same_new nDT, upd_same, .nil, rfl⟩ (fun i H' _ ⟨_, s1, _⟩ => same_t s1 hTp) ?_ ?_
    · rintro i x K1 K2 hi ⟨us, s1, eD, hus, hl⟩ ⟨rfl, hx⟩
      obtain ⟨tr, b, htr, rfl, hB⟩ := tr_at hAp hx
      have hB1 := same_t s1 hB
      refine ⟨rfl, _, rfl, b, _, 1, _, rfl, rfl, hB1, atI_nat (j := 1) rfl, _, rfl, b, _, 0, _, rfl, rfl, hB1, atI_nat (j := 0) rfl, _, rfl, b, _, 2, _, rfl, rfl, hB1, atI_nat (j := 2) rfl, by show 3 ≤ sizeLine; decide, fun p np => ?_⟩
      have s2 := same_new np (o := .tup [.str tr.2.1, .str tr.1, .int tr.2.2])
      refine ⟨us, s2 _ _ eD, sz_lt (by omega), us ++ [.ref p], same_set (s1.trans s2) nDT, upd_same, ?_, by rw [List.length_append, hl]; rfl⟩
      have e : (turnT (Tb.take (i + 1))).map trD = (turnT (Tb.take i)).map trD ++ [trD (tr.2.1, tr.1, tr.2.2)] := by
        rw [turnT_take Tb htr, List.map_append]
        rfl
      rw [e]
      refine dps_set (s2 _ _ eD) ?_ (dpAll_app (dps_same s2 hus) (.cons (.tup (.inl (.inl upd_same)) (.cons (.str _) (.cons (.str _) (.cons (.int _) .nil)))) .nil))
      rw [← e]
      exact noLists_tr _
    rintro H13 ⟨us, s13, eDT, hus, _⟩
    rw [hxl, List.take_length] at hus
    refine ⟨DT, us, rfl, .inl ⟨.inl (.inl eDT), fun p np => ⟨by show 4 ≤ sizeLine; decide, fun vt nvt => ?_⟩⟩⟩
    have s14 := same_new np (o := .tup us)
    have s15 := same_new nvt (o := .tup [.int m, .int d, .int c, .ref p])
    have dT : Dp K _ (.ref vt) (prD m d c (turnT Tb)) := .tup (.inl (.inl upd_same)) (.cons (.int _) (.cons (.int _) (.cons (.int _) (.cons (.tup (.inl (.inl (s15 _ _ upd_same))) (dps_same (s14.trans s15) hus)) .nil))))
    have st := st.same (s13.trans (s14.trans s15))
    generalize upd (upd H13 p (.tup us)) vt (.tup [.int m, .int d, .int c, .ref p]) = H14 at dT st ⊢
    clear s13 s14 s15 hus eDT np nvt hSp hTp hAp hxl nDT
    -- the forests
    have z100 : F.size ≤ 100 := by omega
    have z100' : F'.size ≤ 100 := by omega
    refine ⟨_, rfl, f1, _, 0, .ref D, rfl, rfl, .inl (.inl st.e1), atI_nat (j := 0) rfl, _, rfl, f1, _, 1, .ref lp, rfl, rfl, .inl (.inl st.e1), atI_nat (j := 1) rfl, D, lp, F, rfl, .inl (.inl st.w1), .inl (.inl st.p1), z100, fun H15 va s15 dA => ?_⟩
    have st := st.same s15
    refine ⟨_, rfl, f2, _, 0, .ref lr, rfl, rfl, .inl (.inl st.e2), atI_nat (j := 0) rfl, _, rfl, f2, _, 1, .ref ls, rfl, rfl, .inl (.inl st.e2), atI_nat (j := 1) rfl, lr, ls, F', rfl, .inl (.inl st.w2), .inl (.inl st.p2), z100', fun H16 vb s16 dB => ?_⟩
    have st := st.same s16
    refine ⟨_, rfl, _, rfl, _, rfl, f1, f2, .ref ap, D, lp, lr, ls, d, m, c, Tb, F, F', rfl, st.e1, st.e2, st.w1, st.p1, st.w2, st.p2, st.pr, z100, z100', fun H17 s17 => ?_⟩
    have st := st.same s17
    have dT := dp_same (s15.trans (s16.trans s17)) dT
    have dA := dp_same (s16.trans s17) dA
    have dB := dp_same s17 dB
    clear s15 s16 s17
    have y1 : F.size < 20 := by omega
    have y2 : F'.size < 20 := by omega
    have oA := enc_ok F okw
    have oB := enc_ok F' okw'
    have fA := fit_enc okw y1
    have fB := fit_enc okw' y2
    have fP := fit_pr prok (by omega)
    have fT := fit_pr prok.turn (T := turnT Tb) (by unfold turnT; rw [List.length_map]; omega)
    have three : ∀ {H : Hp} {u v t : V} {A B : Fo Str} {e g i : Int} {U : List (Str × Str × Int)}, Dp K H u (enc A) → Dp K H v (enc B) → Dp K H t (prD e g i U) → fit (enc A) 39 = true → fit (enc B) 39 = true → fit (prD e g i U) 6 = true → Three K H u v t (enc A) (enc B) (prD e g i U) :=
      fun a b p x y z => ⟨a, ⟨39, by omega, x⟩, b, ⟨39, by omega, y⟩, p, ⟨6, z⟩⟩
    -- what is told
    have wl : (PySem.Str.ofString "told").length ≤ 1000 := by decide +kernel
    refine ⟨_, rfl, _, rfl, _, rfl, va, vb, .ref ap, _, _, _, _, rfl, three dA dB st.pr fA fB fP, .inl ⟨oA, oB, prok.ok, F, F', d, m, c, Tb, rfl, rfl, rfl, y1, y2, rfl⟩, fun H18 v18 s18 d18 => ⟨_, rfl, by show 2 ≤ sizeLine; decide, fun t nt => ?_⟩⟩
    have s19 : Same H18 (upd H18 t (.tup [.str (PySem.Str.ofString "told"), .int (dist (prOf d m c Tb) F F')])) := same_new nt
    refine ⟨v18, .ref t, _, 3, rfl, dp_same s19 d18, .tup (.inl (.inl upd_same)) (.cons (.str _) (.cons (.int _) .nil)), by simp [fit, fitAll, wl], by omega, fun H20 s20 => ⟨_, rfl, iteF ?_⟩⟩
    have s1820 := s18.trans (s19.trans s20)
    have st := st.same s1820
    have dT := dp_same s1820 dT
    have dA := dp_same s1820 dA
    have dB := dp_same s1820 dB
    clear s18 s19 s20 s1820 d18
    -- turned
    refine ⟨_, rfl, _, rfl, _, rfl, vb, va, .ref vt, _, _, _, rfl, three dB dA dT fB fA fT, .inl ⟨oB, oA, prok.turn.ok, F', F, m, d, c, turnT Tb, rfl, rfl, rfl, y2, y1, fun H21 s21 => ⟨_, rfl, ?_⟩⟩⟩
    rw [turned_dist]
    refine ⟨_, _, _, 1, rfl, .int _, .int _, fit_i _ _, by omega, fun H22 s22 => ⟨_, rfl, iteF ?_⟩⟩
    have s2122 := s21.trans s22
    have st := st.same s2122
    have dA := dp_same s2122 dA
    have dB := dp_same s2122 dB
    clear s21 s22 s2122 dT
    -- of itself
    refine ⟨_, rfl, _, rfl, _, rfl, va, va, .ref ap, _, _, _, rfl, three dA dA st.pr fA fA fP, .inl ⟨oA, oA, prok.ok, F, F, d, m, c, Tb, rfl, rfl, rfl, y1, y1, fun H23 s23 => ?_⟩⟩
    rw [dist_self prok.nn]
    refine ⟨_, _, _, 1, rfl, .int _, .int _, fit_i _ _, by omega, fun H24 s24 => ⟨_, rfl, iteF ?_⟩⟩
    have s2324 := s23.trans s24
    have st := st.same s2324
    have dA := dp_same s2324 dA
    have dB := dp_same s2324 dB
    clear s23 s24 s2324
    generalize hdue : dist (prOf d m c Tb) F F' = due
    -- no price 0
    refine ⟨fun σ H' => σ = [some (.ref a), some (.ref b1), some (.ref b2), some (.int (most : Int)), some (.ref lp), some (.ref f1), some (.ref f2), some (.ref W3), some (.ref ap), some (.ref vt), some va, some vb, some (.int due), none, none, none, none, none] ∧ Same H24 H', ?_, ?_⟩
    · refine ⟨_, rfl, _, d, m, c, Tb, rfl, st.pr, by omega, fun H25 u s25 du => ⟨_, rfl, _, _, du, dp_same s25 st.pr, pr_shaped prok.pos, pr_shaped prok, _, rfl, ?_⟩⟩
      cases eq : PyData.eqv (prD (mx d) (mx m) (mx c) (posT Tb)) (prD d m c Tb) with
      | false => exact iteF ⟨rfl, s25⟩
      | true =>
        refine iteT ⟨_, rfl, rfl, _, rfl, _, rfl, _, _, dp_same s25 dA, dp_same s25 dB, enc_shaped okw y1, enc_shaped okw' y2, rfl, _, rfl, ?_⟩
        have zi := zero_iff prok eq F F'
        rw [hdue] at zi
        have zi2 : decide (V.int due = V.int 0) = PyData.eqv (enc F) (enc F') := by
          rw [enc_eqv, ← zi]
          by_cases q0 : due = 0
          · rw [q0, decide_eq_true rfl, decide_eq_true rfl]
          · rw [decide_eq_false q0, decide_eq_false fun z => q0 (V.int.inj z)]
        rw [zi2, decide_eq_true rfl]
        exact iteF ⟨rfl, s25⟩
    rintro σ H25 ⟨rfl, s25⟩
    have st := st.same s25
    have dA := dp_same s25 dA
    have dB := dp_same s25 dB
    clear s25
    -- mirrored
    refine ⟨_, rfl, f1, _, 0, .ref D, rfl, rfl, .inl (.inl st.e1), atI_nat (j := 0) rfl, _, rfl, f1, _, 1, .ref lp, rfl, rfl, .inl (.inl st.e1), atI_nat (j := 1) rfl, D, lp, F, rfl, .inl (.inl st.w1), .inl (.inl st.p1), z100, fun H26 vm s26 dM => ?_⟩
    have st := st.same s26
    refine ⟨_, rfl, _, rfl, f2, _, 0, .ref lr, rfl, rfl, .inl (.inl st.e2), atI_nat (j := 0) rfl, _, rfl, f2, _, 1, .ref ls, rfl, rfl, .inl (.inl st.e2), atI_nat (j := 1) rfl, lr, ls, F', rfl, .inl (.inl st.w2), .inl (.inl st.p2), z100', fun H27 vm2 s27 dM2 => ?_⟩
    have st := st.same s27
    have mA : ∀ s ∈ prw (mir F), wordOk s = true := fun s hs => okw s (mir_prw_mem F s hs)
    have mB : ∀ s ∈ prw (mir F'), wordOk s = true := fun s hs => okw' s (mir_prw_mem F' s hs)
    have ym1 : (mir F).size < 20 := by rw [mir_size]; exact y1
    have ym2 : (mir F').size < 20 := by rw [mir_size]; exact y2
    refine ⟨_, rfl, vm, vm2, .ref ap, _, _, _, rfl, three (dp_same s27 dM) dM2 st.pr (fit_enc mA ym1) (fit_enc mB ym2) fP, .inl ⟨enc_ok _ mA, enc_ok _ mB, prok.ok, mir F, mir F', d, m, c, Tb, rfl, rfl, rfl, ym1, ym2, fun H28 s28 => ⟨_, rfl, ?_⟩⟩⟩
    rw [dist_mir, hdue]
    refine ⟨_, _, _, 1, rfl, .int _, .int _, fit_i _ _, by omega, fun H29 s29 => ⟨_, rfl, iteF ?_⟩⟩
    have s2629 := s26.trans (s27.trans (s28.trans s29))
    have st := st.same (s28.trans s29)
    have dA := dp_same s2629 dA
    have dB := dp_same s2629 dB
    clear s26 s27 s28 s29 s2629 dM dM2 mA mB ym1 ym2
    -- rows
    refine ⟨fun σ H' => σ = [some (.ref a), some (.ref b1), some (.ref b2), some (.int (most : Int)), some (.ref lp), some (.ref f1), some (.ref f2), some (.ref W3), some (.ref ap), some (.ref vt), some va, some vb, some (.int due), some vm, none, none, none, none] ∧ Same H29 H', ?_, ?_⟩
    · refine ⟨_, rfl, _, _, rfl, rfl, _, rfl, ?_⟩
      by_cases q8 : most < 8
      · rw [decide_eq_true (show (most : Int) < 8 by omega)]
        refine iteT ⟨_, rfl, f1, _, 0, .ref D, rfl, rfl, .inl (.inl st.e1), atI_nat (j := 0) rfl, _, rfl, f2, _, 0, .ref lr, rfl, rfl, .inl (.inl st.e2), atI_nat (j := 0) rfl, _, rfl, D, lr, .ref ap, prw F, prw F', d, m, c, Tb, rfl, .inl (.inl st.w1), .inl (.inl st.w2), okw, okw', by rw [prw_len]; omega, by rw [prw_len]; omega, st.pr, prok, by omega, fun H30 s30 => ⟨_, rfl, iteF ⟨rfl, s30⟩⟩⟩
      · rw [decide_eq_false (show ¬ (most : Int) < 8 by omega)]
        exact iteF ⟨rfl, Same.refl _⟩
    rintro σ H30 ⟨rfl, s30⟩
    have st := st.same s30
    have dA := dp_same s30 dA
    have dB := dp_same s30 dB
    clear s30
    -- joined
    refine ⟨fun σ H' => σ = [some (.ref a), some (.ref b1), some (.ref b2), some (.int (most : Int)), some (.ref lp), some (.ref f1), some (.ref f2), some (.ref W3), some (.ref ap), some (.ref vt), some va, some vb, some (.int due), some vm, none, none, none, none] ∧ Same H30 H', ?_, ?_⟩
    · refine ⟨_, rfl, rfl, _, rfl, ?_⟩
      rw [show decide (V.int (most : Int) = V.int 5) = decide (most = 5) from dec_nat most 5]
      by_cases q5 : most = 5
      · rw [decide_eq_true q5]
        refine iteT ⟨_, rfl, _, rfl, _, rfl, f2, _, 0, .ref lr, rfl, rfl, .inl (.inl st.e2), atI_nat (j := 0) rfl, _, rfl, f2, _, 1, .ref ls, rfl, rfl, .inl (.inl st.e2), atI_nat (j := 1) rfl, lr, ls, F', rfl, .inl (.inl st.w2), .inl (.inl st.p2), z100', fun H31 vc s31 dC => ?_⟩
        refine ⟨_, rfl, _, rfl, va, vb, vc, .ref ap, F, F', F', d, m, c, Tb, by rw [hdue]; rfl, dp_same s31 dA, dp_same s31 dB, dC, okw, okw', okw', by omega, by omega, dp_same s31 st.pr, prok, by omega, fun H32 s32 => ⟨_, rfl, iteF ⟨rfl, s31.trans s32⟩⟩⟩
      · rw [decide_eq_false q5]
        exact iteF ⟨rfl, Same.refl _⟩
    rintro σ H31 ⟨rfl, s31⟩
    have st := st.same s31
    have dA := dp_same s31 dA
    have dB := dp_same s31 dB
    clear s31
    -- what is bad
    refine ⟨_, rfl, a, 3, ns, rfl, st.sc, fun H32 b4 s32 nb4 eb4 => ?_⟩
    have st32 := st.same s32
    refine ⟨_, rfl, f1, _, 0, .ref D, rfl, rfl, .inl (.inl st32.e1), atI_nat (j := 0) rfl, _, rfl, f1, _, 1, .ref lp, rfl, rfl, .inl (.inl st32.e1), atI_nat (j := 1) rfl, b4, D, lp, H31, F, rfl, DS.start s32 eb4 nb4, st32.w1, st32.p1, ne_of_none st.w1 nb4, ne_of_none st.p1 nb4, okw, z1, fun H33 Hd33 vx dx ds33 dX nX fX => ?_⟩
    have s3133 := ds33.g1.trans ds33.g2
    have dX := dp_same ds33.g2 dX
    have st33 := st.same s3133
    refine ⟨_, rfl, a, 4, ns, rfl, st33.sc, fun H34 b5 s34 nb5 eb5 => ?_⟩
    have st34 := st33.same s34
    refine ⟨_, rfl, f2, _, 0, .ref lr, rfl, rfl, .inl (.inl st34.e2), atI_nat (j := 0) rfl, _, rfl, f2, _, 1, .ref ls, rfl, rfl, .inl (.inl st34.e2), atI_nat (j := 1) rfl, b5, lr, ls, H33, F', rfl, DS.start s34 eb5 nb5, st34.w2, st34.p2, ne_of_none st33.w2 nb5, ne_of_none st33.p2 nb5, okw', z2, fun H35 Hd35 vy dy ds35 dY nY fY => ?_⟩
    have s3335 := ds35.g1.trans ds35.g2
    have dY := dp_same ds35.g2 dY
    have st35 := st33.same s3335
    have dX := dp_same s3335 dX
    refine ⟨_, rfl, _, rfl, _, rfl, _, rfl, _, rfl, _, rfl, a, 5, ns, rfl, st35.sc, fun H36 b6 s36 nb6 eb6 => ?_⟩
    refine ⟨_, rfl, b6, .ref ap, H35, d, m, c, Tb, rfl, DS.start s36 eb6 nb6, st35.pr, prok, by omega, fun H37 Hd37 vz dz ds37 dZ nZ fZ => ?_⟩
    have s3537 := ds37.g1.trans ds37.g2
    have s3137 := s3133.trans (s3335.trans s3537)
    exact ⟨va, vb, .ref ap, vx, vy, vz, _, _, dx, dy, dz, rfl, dp_same s3137 dA, dp_same s3137 dB, dp_same s3537 dX, dp_same s3537 dY, dp_same ds37.g2 dZ, ⟨oA, oB, nX, nY, nZ⟩, ⟨fA, fB, fX, fY, fZ⟩, fun H38 _ => q H38⟩
end
end K14
set_option maxRecDepth 100000
set_option maxHeartbeats 4000000
namespace K14
open PySem PySem.Spec PyProof.Rows L2
section
variable {K : PySem.W.Frag} {mg : Str → Option Value} {h : Heap}
def df_of {x : Str} {st : Stmt} {ps : List Str} {f : Addr} {od an : Option Addr} {osl : Array (Option Value)} {oc kV doc pm cdv ct : Value} (X : K.In h) (G : h.Ns mainGlobals mg)
    (hb : ∀ (kV doc pm : Value) (an : Option Addr) (cdv ct : Value) (us : List Value), us.length = ps.length → bindArgs (PySem.W.fnOf x x (defArgs st) (defBody st) (defScope st) .none kV doc pm an cdv ct) ⟨us, []⟩ = pure (ps.zip us))
    (a : PySem.W.nsIn K mainGlobals x = some (some (.ref f))) (l : K.lookup f = some ⟨oc, od, .func (PySem.W.fnOf x x (defArgs st) (defBody st) (defScope st) .none kV doc pm an cdv ct), osl⟩)
    (c : PySem.W.codeIn K cdv x = true) (k : PySem.W.keepIn K (.ref f) = true) : Df K mg x st ps :=
  ⟨f, _, fun_mk l c k, PySem.W.mg_of X G a, (fun_mk l c k).binds hb⟩
def mf_of {C : Addr} {x q : Str} {st : Stmt} {ps : List Str} {f : Addr} {od an : Option Addr} {osl : Array (Option Value)} {oc kV doc pm cdv ct : Value}
    (hb : ∀ (kV doc pm : Value) (an : Option Addr) (cdv ct : Value) (us : List Value), us.length = ps.length → bindArgs (PySem.W.fnOf x q (defArgs st) (defBody st) (defScope st) .none kV doc pm an cdv ct) ⟨us, []⟩ = pure (ps.zip us))
    (a : PySem.W.findIn K (.ref C) x = some (some (.ref f))) (i : PySem.W.isFn K (.ref f) = true) (l : K.lookup f = some ⟨oc, od, .func (PySem.W.fnOf x q (defArgs st) (defBody st) (defScope st) .none kV doc pm an cdv ct), osl⟩)
    (c : PySem.W.codeIn K cdv q = true) (k : PySem.W.keepIn K (.ref f) = true) : Mf K C x q st ps :=
  ⟨f, _, fun_mk l c k, ⟨a, i, k⟩, (fun_mk l c k).binds hb⟩
end
/-- which clause names the class: what the chains say -/
theorem exm_as {K : PySem.W.Frag} {T C : Addr} {b : Bool} (h1 : PySem.W.subIn K (.ref C) (.type "BaseException") = some true) (h2 : PySem.W.isClsIn K C = true) (h3 : PySem.W.typeIn K (.ref C) = some (.type "type")) (h4 : PySem.W.subIn K (.ref T) (.ref C) = some b) :
    PySem.W.exmOne K (.ref T) (.ref C) = some b := by
  have e2 : (PySem.W.clsIn K C).isSome = true := h2
  unfold PySem.W.exmOne PySem.W.kitCls
  simp only [h1, h3, e2]
  exact h4
theorem vals_back : ∀ {vs : List V} {us : List Value}, Vals vs us → Vals vs.reverse us.reverse
  | [], [], _ => .nil
  | v :: vs, u :: us, .cons h t => by
    rw [List.reverse_cons, List.reverse_cons]
    exact (vals_back t).append (.cons h .nil)
theorem kw_ok {P : Program} {K : PySem.W.Frag} {mg : Str → Option Value} (d : Df K mg "forest_distance" (topS 36) ["a", "b", "prices"]) : KBinds K d.fd ["a", "b", "prices"] ["prices", "b", "a"] (fun us ws => us ++ ws.reverse) (fun vs zs => vs ++ zs.reverse) := by
  obtain ⟨oc, od, kV, doc, pm, an, cdv, ct, osl, e, _, _⟩ := d.F.ex
  refine ⟨fun s us ws _ hl => ?_, fun r rz => r.append (vals_back rz)⟩
  rw [e]
  rw [List.length_append, List.length_reverse] at hl
  match us, ws, hl with
  | [], [_, _, _], _ => exact .of_eq rfl
  | [_], [_, _], _ => exact .of_eq rfl
  | [_, _], [_], _ => exact .of_eq rfl
  | [_, _, _], [], _ => exact .of_eq rfl
  | [], [], hl => cases hl
  | [], [_], hl => cases hl
  | [], [_, _], hl => cases hl
  | [], _ :: _ :: _ :: _ :: _, hl => simp at hl <;> omega
  | [_], [], hl => cases hl
  | [_], [_], hl => cases hl
  | [_], _ :: _ :: _ :: _, hl => simp at hl <;> omega
  | [_, _], [], hl => cases hl
  | [_, _], _ :: _ :: _, hl => simp at hl <;> omega
  | [_, _, _], _ :: _, hl => simp at hl <;> omega
  | _ :: _ :: _ :: _ :: _, _, hl => simp at hl <;> omega
theorem law_head {P : Program} {w : World} {K : PySem.W.Frag} {mg : Str → Option Value} {fa : Addr} (T : Top P K mg) (hfa : mg "law" = some (.ref fa)) :
    ∃ fd : FuncData, (∀ (s : Shared) (u : Value), BindsTo s fd ⟨[u], []⟩ [("_law_script", u)]) ∧ ∀ base : Heap, K.In base → base.Ns mainGlobals mg → FnOk P w K mg base CX0 48 fa fd ["_law_script"] (spLaw K) := by
  have e := hfa.symm.trans T.d_law.g
  cases e
  obtain ⟨oc, od, kV, doc, pm, an, cdv, ct, osl, e, _, _⟩ := T.d_law.F.ex
  refine ⟨T.d_law.fd, fun s u => ?_, fun base _ _ => ok_law T⟩
  rw [e]
  exact .of_eq rfl
end K14
set_option maxRecDepth 100000
set_option maxHeartbeats 4000000
namespace K14
open PySem PySem.Spec PyProof.Rows L2
theorem inv_of {P : Program} {K : PySem.W.Frag} {mg : Str → Option Value} {h : Heap} {nm qual : Str} {C fI cda cc : Addr} (X : K.In h) (G : h.Ns mainGlobals mg)
    {n q : Str} {N : Addr} {bs bm : List Value} {sn : List Str} {sub : List Value} {ab : Bool} {col : Option Bool} {dd : Option Addr} {k0 k1 k2 k3 k5 : Option Value}
    {oc : Value} {od : Option Addr} {doc pm : Value} {an : Option Addr} {ct : Value} {osl : Array (Option Value)} {msg : Str} {p1 p2 q1 q2 q3 q4 q5 q6 q7 q8 q9 q10 : Pos}
    {cl : Value} {cld : Option Addr} {csl : Array (Option Value)} {cl2 : Value} {cld2 : Option Addr} {vs : Array Value} {csl2 : Array (Option Value)} {file : Str} {tf : Tok}
    (aC : PySem.W.nsIn K mainGlobals nm = some (some (.ref C)))
    (xL : K.lookup C = some (excClassObj n q C N bs bm true sn sub ab col dd k0 k1 k2 k3 k5 "ValueError.__new__")) (rv : PySem.HandSPX.refsVE bm = true)
    (sa : PySem.W.findIn K (.ref C) "__setattr__" = some (some (.builtin "object.__setattr__"))) (ga : PySem.W.findIn K (.ref C) "__getattribute__" = some (some (.builtin "BaseException.__getattribute__"))) (gg : PySem.W.findIn K (.ref C) "__getattr__" = some none)
    (nb : PySem.W.findIn K (.ref C) "value" = some none) (iC : PySem.W.findIn K (.ref C) "__init__" = some (some (.ref fI))) (tC : PySem.W.typeIn K (.ref fI) = some (.type "function")) (kC : PySem.W.keepIn K (.ref C) = true)
    (eC : PySem.W.subIn K (.ref C) (.type "BaseException") = some true) (tyC : PySem.W.typeIn K (.ref C) = some (.type "type")) (hC : PySem.W.hasDictIn K C = true) (isC : PySem.W.isClsIn K C = true) (sC : PySem.W.subIn K (.ref C) (.ref C) = some true)
    (ve : PySem.W.subIn K (.ref C) (.type "ValueError") = some true) (me : PySem.W.mroIn K C (.ref C) = some true) (sup : PySem.W.ks_superIn K C C "__init__" = some (some (.builtin "ValueError.__init__"))) (st : PySem.W.nsIn K cStatics "thirdparty.any" = some none)
    (zs : PySem.W.nsIn K mainGlobals "super" = some none)
    (lI : K.lookup fI = some ⟨oc, od, .func (PySem.W.ksFn "__init__" qual (K14X.iAr p1 p2) (K14X.iBo msg q1 q2 q3 q4 q5 q6 q7 q8 q9 q10) K14X.iSc .none .none doc pm an (.ref cda) ct cc), osl⟩) (cI : PySem.W.codeIn K (.ref cda) qual = true)
    (lc : K.lookup cc = some ⟨cl, cld, .cell (some (.ref C)), csl⟩) (ld : K.lookup cda = some ⟨cl2, cld2, .fields vs, csl2⟩) (v2 : vs[2]? = some (.str file tf)) (fi : ((P.main.file : Str) == file) = true) (ln : (q3.endLine == q5.line) = true)
    (tp : (P.main.scope.names.lookup ("super" : Str)).isSome = false) : K14X.InvC P K mg nm qual C fI :=
  { gC := PySem.W.mg_of X G aC, cls := ⟨n, q, N, bs, bm, sn, sub, ab, col, dd, k0, k1, k2, k3, k5, xL, rv⟩, sa := sa, ga := ga, gg := gg, noN := nb, iC := iC, tC := tC, kC := kC, exC := eC, tyC := tyC, hdC := hC, te := exm_as eC isC tyC sC, ve := ve, me := me, sup := sup, st := st,
    zs := PySem.W.mg_none_of X G zs, fn := ⟨oc, od, doc, pm, an, cda, cc, ct, osl, msg, p1, p2, q1, q2, q3, q4, q5, q6, q7, q8, q9, q10, lI, cI, ⟨cl, cld, csl, lc⟩, ⟨cl2, cld2, vs, csl2, file, tf, ld, v2, fi, ln⟩⟩, top := tp }
theorem top_fin {P : Program} {w : World} {K : PySem.W.Frag} {mg : Str → Option Value} {h : Heap} {fa : Addr} (X : K.In h) (G : h.Ns mainGlobals mg) (hfa : mg "law" = some (.ref fa))
    (d_is_int : Df K mg "is_int" (topS 8) ["value"])
    (d_is_count : Df K mg "is_count" (topS 9) ["value"])
    (d_has_size : Df K mg "has_size" (topS 10) ["value", "size"])
    (d_is_word : Df K mg "is_word" (topS 11) ["value"])
    (d_are_triples : Df K mg "_are_triples" (topS 13) ["table"])
    (d_is_prices : Df K mg "is_prices" (topS 14) ["value"])
    (d_need_prices : Df K mg "need_prices" (topS 15) ["prices"])
    (d_price_between : Df K mg "price_between" (topS 16) ["prices", "word", "other"])
    (d_table_ahead : Df K mg "table_ahead" (topS 18) ["a", "b", "prices"])
    (d_row_distance : Df K mg "row_distance" (topS 19) ["a", "b", "prices"])
    (d_is_forest_value : Df K mg "is_forest_value" (topS 21) ["value"])
    (d_need_forest : Df K mg "need_forest" (topS 22) ["a"])
    (d_need_forests : Df K mg "need_forests" (topS 23) ["a", "b"])
    (d_put_nodes : Df K mg "_put_nodes" (topS 24) ["a", "parent", "words", "parents"])
    (d_listed : Df K mg "listed" (topS 25) ["a"])
    (d_words_of : Df K mg "words_of" (topS 26) ["a"])
    (d_sizes_by : Df K mg "sizes_by" (topS 27) ["parents"])
    (d_levels_by : Df K mg "levels_by" (topS 28) ["parents"])
    (d_posts_by : Df K mg "posts_by" (topS 29) ["parents"])
    (d_nodes_behind : Df K mg "nodes_behind" (topS 30) ["a"])
    (d_firsts_of : Df K mg "firsts_of" (topS 31) ["a"])
    (d_looked_at : Df K mg "_looked_at" (topS 35) ["a", "b", "prices"])
    (d_forest_distance : Df K mg "forest_distance" (topS 36) ["a", "b", "prices"])
    (d_law_cell : Df K mg "_law_cell" (topS 38) ["_law_script", "_law_k"])
    (d_law_mix : Df K mg "_law_mix" (topS 39) ["_law_cell_here", "_law_salt"])
    (d_law_box : Df K mg "_law_box" (topS 40) ["_law_script", "_law_at"])
    (d_law_draw : Df K mg "_law_draw" (topS 41) ["_law_box_here", "_law_many"])
    (d_law_word : Df K mg "_law_word" (topS 42) ["_law_box_here"])
    (d_law_parents : Df K mg "_law_parents" (topS 43) ["_law_box_here", "_law_many"])
    (d_law_forest : Df K mg "_law_forest" (topS 44) ["_law_words", "_law_parents_here"])
    (d_law_sizes : Df K mg "_law_sizes" (topS 45) ["_law_parents_here"])
    (d_law_depths : Df K mg "_law_depths" (topS 46) ["_law_parents_here"])
    (d_law_posts : Df K mg "_law_posts" (topS 47) ["_law_parents_here"])
    (d_law_price : Df K mg "_law_price" (topS 48) ["_law_box_here"])
    (d_law_prices : Df K mg "_law_prices" (topS 49) ["_law_box_here", "_law_words"])
    (d_law_change : Df K mg "_law_change" (topS 50) ["_law_prices_here", "_law_word_here", "_law_other_here"])
    (d_law_bad_prices : Df K mg "_law_bad_prices" (topS 51) ["_law_box_here", "_law_prices_here"])
    (d_law_other : Df K mg "_law_other" (topS 52) ["_law_box_here", "_law_words", "_law_parents_here", "_law_most"])
    (d_law_bad_word : Df K mg "_law_bad_word" (topS 53) ["_law_box_here"])
    (d_law_bad_tree : Df K mg "_law_bad_tree" (topS 54) ["_law_box_here", "_law_word_here", "_law_children"])
    (d_law_bad : Df K mg "_law_bad" (topS 55) ["_law_box_here", "_law_words", "_law_parents_here"])
    (d_law_alike : Df K mg "_law_alike" (topS 56) ["_law_told", "_law_due"])
    (d_law_mirrored : Df K mg "_law_mirrored" (topS 57) ["_law_words", "_law_parents_here"])
    (d_law_posted : Df K mg "_law_posted" (topS 58) ["_law_words", "_law_parents_here"])
    (d_law_stretches : Df K mg "_law_stretches" (topS 59) ["_law_leaves"])
    (d_law_filled : Df K mg "_law_filled" (topS 60) ["_law_one", "_law_other_here", "_law_prices_here", "_law_trees", "_law_first", "_law_second"])
    (d_law_distance : Df K mg "_law_distance" (topS 61) ["_law_first", "_law_second", "_law_prices_here"])
    (d_law_asked : Df K mg "_law_asked" (topS 62) ["_law_a", "_law_b", "_law_prices_here"])
    (d_law_refused : Df K mg "_law_refused" (topS 63) ["_law_a", "_law_b", "_law_prices_here", "_law_bad_here", "_law_other_here", "_law_spoilt"])
    (d_law_positive : Df K mg "_law_positive" (topS 64) ["_law_prices_here"])
    (d_law_flat : Df K mg "_law_flat" (topS 65) ["_law_words", "_law_others", "_law_prices_here"])
    (d_law_joined : Df K mg "_law_joined" (topS 66) ["_law_a", "_law_b", "_law_c", "_law_price_here", "_law_prices_here"])
    (d_law : Df K mg "law" (topS 67) ["_law_script"])
    {C1 I1 C2 I2 : Addr} (x1 : K14X.InvC P K mg "InvalidForest" "InvalidForest.__init__" C1 I1) (x2 : K14X.InvC P K mg "InvalidPrices" "InvalidPrices.__init__" C2 I2) (isC : PySem.W.isClsIn K C1 = true) (s21 : PySem.W.subIn K (.ref C2) (.ref C1) = some false)
    {CS : Addr} (aC : PySem.W.nsIn K mainGlobals "Stretches" = some (some (.ref CS))) (pg : PySem.W.plainGet K CS Str.empty = true) (hd : PySem.W.hasDictIn K CS = true) (po : PySem.W.plainOver K CS = true) (sa : PySem.W.findIn K (.ref CS) "__setattr__" = some (some (.builtin "object.__setattr__"))) (mk : PySem.W.makesIn K CS = true) (kc : PySem.W.keepIn K (.ref CS) = true)
    (n_nodes : PySem.W.findIn K (.ref CS) "nodes" = some none)
    (n_others : PySem.W.findIn K (.ref CS) "others" = some none)
    (n_words : PySem.W.findIn K (.ref CS) "words" = some none)
    (n_words_there : PySem.W.findIn K (.ref CS) "words_there" = some none)
    (n_firsts : PySem.W.findIn K (.ref CS) "firsts" = some none)
    (n_firsts_there : PySem.W.findIn K (.ref CS) "firsts_there" = some none)
    (n_prices : PySem.W.findIn K (.ref CS) "prices" = some none)
    (n_known : PySem.W.findIn K (.ref CS) "known" = some none)
    (m_init : Mf K CS "__init__" "Stretches.__init__" (inClass (topS 33) 0) ["self", "a", "b", "prices"])
    (m_whole : Mf K CS "whole" "Stretches.whole" (inClass (topS 33) 1) ["self"])
    (m_change : Mf K CS "change" "Stretches.change" (inClass (topS 33) 2) ["self", "high", "end"])
    (m_parts : Mf K CS "parts" "Stretches.parts" (inClass (topS 33) 3) ["self", "key"])
    (m_least : Mf K CS "least" "Stretches.least" (inClass (topS 33) 4) ["self", "key"])
    (z_all : PySem.W.nsIn K mainGlobals "all" = some none)
    (z_bool : PySem.W.nsIn K mainGlobals "bool" = some none)
    (z_enumerate : PySem.W.nsIn K mainGlobals "enumerate" = some none)
    (z_int : PySem.W.nsIn K mainGlobals "int" = some none)
    (z_isinstance : PySem.W.nsIn K mainGlobals "isinstance" = some none)
    (z_len : PySem.W.nsIn K mainGlobals "len" = some none)
    (z_list : PySem.W.nsIn K mainGlobals "list" = some none)
    (z_max : PySem.W.nsIn K mainGlobals "max" = some none)
    (z_min : PySem.W.nsIn K mainGlobals "min" = some none)
    (z_range : PySem.W.nsIn K mainGlobals "range" = some none)
    (z_reversed : PySem.W.nsIn K mainGlobals "reversed" = some none)
    (z_str : PySem.W.nsIn K mainGlobals "str" = some none)
    (z_sum : PySem.W.nsIn K mainGlobals "sum" = some none)
    (z_tuple : PySem.W.nsIn K mainGlobals "tuple" = some none)
    {tL tM : Tok} (vL : PySem.W.nsIn K mainGlobals "LETTERS" = some (some (.str (PySem.Str.ofString "abcdefghijklmnopqrstuvwxyz") tL))) (vM : PySem.W.nsIn K mainGlobals "MOST_LETTERS" = some (some (.int 8 tM))) :
    ∃ fd : FuncData, (∀ (s : Shared) (u : Value), BindsTo s fd ⟨[u], []⟩ [("_law_script", u)]) ∧ ∀ base : Heap, K.In base → base.Ns mainGlobals mg → FnOk P w K mg base CX0 48 fa fd ["_law_script"] (spLaw K) :=
  law_head (P := P) (w := w) (K := K) (mg := mg)
    { d_is_int := d_is_int,
      d_is_count := d_is_count,
      d_has_size := d_has_size,
      d_is_word := d_is_word,
      d_are_triples := d_are_triples,
      d_is_prices := d_is_prices,
      d_need_prices := d_need_prices,
      d_price_between := d_price_between,
      d_table_ahead := d_table_ahead,
      d_row_distance := d_row_distance,
      d_is_forest_value := d_is_forest_value,
      d_need_forest := d_need_forest,
      d_need_forests := d_need_forests,
      d_put_nodes := d_put_nodes,
      d_listed := d_listed,
      d_words_of := d_words_of,
      d_sizes_by := d_sizes_by,
      d_levels_by := d_levels_by,
      d_posts_by := d_posts_by,
      d_nodes_behind := d_nodes_behind,
      d_firsts_of := d_firsts_of,
      d_looked_at := d_looked_at,
      d_forest_distance := d_forest_distance,
      d_law_cell := d_law_cell,
      d_law_mix := d_law_mix,
      d_law_box := d_law_box,
      d_law_draw := d_law_draw,
      d_law_word := d_law_word,
      d_law_parents := d_law_parents,
      d_law_forest := d_law_forest,
      d_law_sizes := d_law_sizes,
      d_law_depths := d_law_depths,
      d_law_posts := d_law_posts,
      d_law_price := d_law_price,
      d_law_prices := d_law_prices,
      d_law_change := d_law_change,
      d_law_bad_prices := d_law_bad_prices,
      d_law_other := d_law_other,
      d_law_bad_word := d_law_bad_word,
      d_law_bad_tree := d_law_bad_tree,
      d_law_bad := d_law_bad,
      d_law_alike := d_law_alike,
      d_law_mirrored := d_law_mirrored,
      d_law_posted := d_law_posted,
      d_law_stretches := d_law_stretches,
      d_law_filled := d_law_filled,
      d_law_distance := d_law_distance,
      d_law_asked := d_law_asked,
      d_law_refused := d_law_refused,
      d_law_positive := d_law_positive,
      d_law_flat := d_law_flat,
      d_law_joined := d_law_joined,
      d_law := d_law,
      CS := CS,
      S_cl := ⟨pg, hd, po, sa⟩,
      S_g := PySem.W.mg_of X G aC,
      m_init := m_init,
      m_whole := m_whole,
      m_change := m_change,
      m_parts := m_parts,
      m_least := m_least,
      S_mk := ⟨mk, m_init.m.at_, m_init.m.fn, kc⟩,
      n_nodes := n_nodes,
      n_others := n_others,
      n_words := n_words,
      n_words_there := n_words_there,
      n_firsts := n_firsts,
      n_firsts_there := n_firsts_there,
      n_prices := n_prices,
      n_known := n_known,
      z_all := PySem.W.mg_none_of X G z_all,
      z_bool := PySem.W.mg_none_of X G z_bool,
      z_enumerate := PySem.W.mg_none_of X G z_enumerate,
      z_int := PySem.W.mg_none_of X G z_int,
      z_isinstance := PySem.W.mg_none_of X G z_isinstance,
      z_len := PySem.W.mg_none_of X G z_len,
      z_list := PySem.W.mg_none_of X G z_list,
      z_max := PySem.W.mg_none_of X G z_max,
      z_min := PySem.W.mg_none_of X G z_min,
      z_range := PySem.W.mg_none_of X G z_range,
      z_reversed := PySem.W.mg_none_of X G z_reversed,
      z_str := PySem.W.mg_none_of X G z_str,
      z_sum := PySem.W.mg_none_of X G z_sum,
      z_tuple := PySem.W.mg_none_of X G z_tuple,
      tL := tL,
      v_LETTERS := PySem.W.mg_of X G vL,
      tM := tM,
      v_MOST_LETTERS := PySem.W.mg_of X G vM,
      C1 := C1,
      I1 := I1,
      x_InvalidForest := x1,
      C2 := C2,
      I2 := I2,
      x_InvalidPrices := x2,
      e21 := exm_as x1.exC isC x1.tyC s21,
      k_forest_distance := kw_ok (P := P) d_forest_distance } hfa
end K14
open PySem PySem.W PyProof.Rows
set_option maxRecDepth 100000 in
set_option maxHeartbeats 0 in
theorem PySem.Challenge.cw_graftbook_k14_whole_distances_holds : PySem.Challenge.rw_graftbook_k14_whole_distances.Holds := by
  w_on; o_law; k_head; (case hw => w_witness2)
  k_fill
  refine L2.walk_of (l := PySem.Challenge.rw_graftbook_k14_whole_distances) (n := 63) (k := 48) (x := "_law_script") (CX := fun _ => L2.CX0) (sp := fun w => K14.spLaw _) rfl (by decide) rfl ⟨rfl, by decide, by decide⟩ (fun w h Y => PySem.W.kIn_of Y) ?F (fun _ _ a ns hl _ hS => ⟨a, ns, rfl, hS, hl, fun _ => rfl⟩) (fun _ _ _ _ _ h => h)
  case F =>
    intro w mg fa h KX G hmg
    have d_is_int := by
      refine' K14.df_of (x := "is_int") (st := K14.topS 8) (ps := ["value"]) KX G (fun _ _ _ _ _ _ us hl => match us, hl with | [_], _ => rfl) ?a ?l ?c ?k
      (case a => k_is); (case l => k_is); (case c => k_is); (case k => k_is)
    have d_is_count := by
      refine' K14.df_of (x := "is_count") (st := K14.topS 9) (ps := ["value"]) KX G (fun _ _ _ _ _ _ us hl => match us, hl with | [_], _ => rfl) ?a ?l ?c ?k
      (case a => k_is); (case l => k_is); (case c => k_is); (case k => k_is)
    have d_has_size := by
      refine' K14.df_of (x := "has_size") (st := K14.topS 10) (ps := ["value", "size"]) KX G (fun _ _ _ _ _ _ us hl => match us, hl with | [_, _], _ => rfl) ?a ?l ?c ?k
      (case a => k_is); (case l => k_is); (case c => k_is); (case k => k_is)
    have d_is_word := by
      refine' K14.df_of (x := "is_word") (st := K14.topS 11) (ps := ["value"]) KX G (fun _ _ _ _ _ _ us hl => match us, hl with | [_], _ => rfl) ?a ?l ?c ?k
      (case a => k_is); (case l => k_is); (case c => k_is); (case k => k_is)
    have d_are_triples := by
      refine' K14.df_of (x := "_are_triples") (st := K14.topS 13) (ps := ["table"]) KX G (fun _ _ _ _ _ _ us hl => match us, hl with | [_], _ => rfl) ?a ?l ?c ?k
      (case a => k_is); (case l => k_is); (case c => k_is); (case k => k_is)
    have d_is_prices := by
      refine' K14.df_of (x := "is_prices") (st := K14.topS 14) (ps := ["value"]) KX G (fun _ _ _ _ _ _ us hl => match us, hl with | [_], _ => rfl) ?a ?l ?c ?k
      (case a => k_is); (case l => k_is); (case c => k_is); (case k => k_is)
    have d_need_prices := by
      refine' K14.df_of (x := "need_prices") (st := K14.topS 15) (ps := ["prices"]) KX G (fun _ _ _ _ _ _ us hl => match us, hl with | [_], _ => rfl) ?a ?l ?c ?k
      (case a => k_is); (case l => k_is); (case c => k_is); (case k => k_is)
    have d_price_between := by
      refine' K14.df_of (x := "price_between") (st := K14.topS 16) (ps := ["prices", "word", "other"]) KX G (fun _ _ _ _ _ _ us hl => match us, hl with | [_, _, _], _ => rfl) ?a ?l ?c ?k
      (case a => k_is); (case l => k_is); (case c => k_is); (case k => k_is)
    have d_table_ahead := by
      refine' K14.df_of (x := "table_ahead") (st := K14.topS 18) (ps := ["a", "b", "prices"]) KX G (fun _ _ _ _ _ _ us hl => match us, hl with | [_, _, _], _ => rfl) ?a ?l ?c ?k
      (case a => k_is); (case l => k_is); (case c => k_is); (case k => k_is)
    have d_row_distance := by
      refine' K14.df_of (x := "row_distance") (st := K14.topS 19) (ps := ["a", "b", "prices"]) KX G (fun _ _ _ _ _ _ us hl => match us, hl with | [_, _, _], _ => rfl) ?a ?l ?c ?k
      (case a => k_is); (case l => k_is); (case c => k_is); (case k => k_is)
    have d_is_forest_value := by
      refine' K14.df_of (x := "is_forest_value") (st := K14.topS 21) (ps := ["value"]) KX G (fun _ _ _ _ _ _ us hl => match us, hl with | [_], _ => rfl) ?a ?l ?c ?k
      (case a => k_is); (case l => k_is); (case c => k_is); (case k => k_is)
    have d_need_forest := by
      refine' K14.df_of (x := "need_forest") (st := K14.topS 22) (ps := ["a"]) KX G (fun _ _ _ _ _ _ us hl => match us, hl with | [_], _ => rfl) ?a ?l ?c ?k
      (case a => k_is); (case l => k_is); (case c => k_is); (case k => k_is)
    have d_need_forests := by
      refine' K14.df_of (x := "need_forests") (st := K14.topS 23) (ps := ["a", "b"]) KX G (fun _ _ _ _ _ _ us hl => match us, hl with | [_, _], _ => rfl) ?a ?l ?c ?k
      (case a => k_is); (case l => k_is); (case c => k_is); (case k => k_is)
    have d_put_nodes := by
      refine' K14.df_of (x := "_put_nodes") (st := K14.topS 24) (ps := ["a", "parent", "words", "parents"]) KX G (fun _ _ _ _ _ _ us hl => match us, hl with | [_, _, _, _], _ => rfl) ?a ?l ?c ?k
      (case a => k_is); (case l => k_is); (case c => k_is); (case k => k_is)
    have d_listed := by
      refine' K14.df_of (x := "listed") (st := K14.topS 25) (ps := ["a"]) KX G (fun _ _ _ _ _ _ us hl => match us, hl with | [_], _ => rfl) ?a ?l ?c ?k
      (case a => k_is); (case l => k_is); (case c => k_is); (case k => k_is)
    have d_words_of := by
      refine' K14.df_of (x := "words_of") (st := K14.topS 26) (ps := ["a"]) KX G (fun _ _ _ _ _ _ us hl => match us, hl with | [_], _ => rfl) ?a ?l ?c ?k
      (case a => k_is); (case l => k_is); (case c => k_is); (case k => k_is)
    have d_sizes_by := by
      refine' K14.df_of (x := "sizes_by") (st := K14.topS 27) (ps := ["parents"]) KX G (fun _ _ _ _ _ _ us hl => match us, hl with | [_], _ => rfl) ?a ?l ?c ?k
      (case a => k_is); (case l => k_is); (case c => k_is); (case k => k_is)
    have d_levels_by := by
      refine' K14.df_of (x := "levels_by") (st := K14.topS 28) (ps := ["parents"]) KX G (fun _ _ _ _ _ _ us hl => match us, hl with | [_], _ => rfl) ?a ?l ?c ?k
      (case a => k_is); (case l => k_is); (case c => k_is); (case k => k_is)
    have d_posts_by := by
      refine' K14.df_of (x := "posts_by") (st := K14.topS 29) (ps := ["parents"]) KX G (fun _ _ _ _ _ _ us hl => match us, hl with | [_], _ => rfl) ?a ?l ?c ?k
      (case a => k_is); (case l => k_is); (case c => k_is); (case k => k_is)
    have d_nodes_behind := by
      refine' K14.df_of (x := "nodes_behind") (st := K14.topS 30) (ps := ["a"]) KX G (fun _ _ _ _ _ _ us hl => match us, hl with | [_], _ => rfl) ?a ?l ?c ?k
      (case a => k_is); (case l => k_is); (case c => k_is); (case k => k_is)
    have d_firsts_of := by
      refine' K14.df_of (x := "firsts_of") (st := K14.topS 31) (ps := ["a"]) KX G (fun _ _ _ _ _ _ us hl => match us, hl with | [_], _ => rfl) ?a ?l ?c ?k
      (case a => k_is); (case l => k_is); (case c => k_is); (case k => k_is)
    have d_looked_at := by
      refine' K14.df_of (x := "_looked_at") (st := K14.topS 35) (ps := ["a", "b", "prices"]) KX G (fun _ _ _ _ _ _ us hl => match us, hl with | [_, _, _], _ => rfl) ?a ?l ?c ?k
      (case a => k_is); (case l => k_is); (case c => k_is); (case k => k_is)
    have d_forest_distance := by
      refine' K14.df_of (x := "forest_distance") (st := K14.topS 36) (ps := ["a", "b", "prices"]) KX G (fun _ _ _ _ _ _ us hl => match us, hl with | [_, _, _], _ => rfl) ?a ?l ?c ?k
      (case a => k_is); (case l => k_is); (case c => k_is); (case k => k_is)
    have d_law_cell := by
      refine' K14.df_of (x := "_law_cell") (st := K14.topS 38) (ps := ["_law_script", "_law_k"]) KX G (fun _ _ _ _ _ _ us hl => match us, hl with | [_, _], _ => rfl) ?a ?l ?c ?k
      (case a => k_is); (case l => k_is); (case c => k_is); (case k => k_is)
    have d_law_mix := by
      refine' K14.df_of (x := "_law_mix") (st := K14.topS 39) (ps := ["_law_cell_here", "_law_salt"]) KX G (fun _ _ _ _ _ _ us hl => match us, hl with | [_, _], _ => rfl) ?a ?l ?c ?k
      (case a => k_is); (case l => k_is); (case c => k_is); (case k => k_is)
    have d_law_box := by
      refine' K14.df_of (x := "_law_box") (st := K14.topS 40) (ps := ["_law_script", "_law_at"]) KX G (fun _ _ _ _ _ _ us hl => match us, hl with | [_, _], _ => rfl) ?a ?l ?c ?k
      (case a => k_is); (case l => k_is); (case c => k_is); (case k => k_is)
    have d_law_draw := by
      refine' K14.df_of (x := "_law_draw") (st := K14.topS 41) (ps := ["_law_box_here", "_law_many"]) KX G (fun _ _ _ _ _ _ us hl => match us, hl with | [_, _], _ => rfl) ?a ?l ?c ?k
      (case a => k_is); (case l => k_is); (case c => k_is); (case k => k_is)
    have d_law_word := by
      refine' K14.df_of (x := "_law_word") (st := K14.topS 42) (ps := ["_law_box_here"]) KX G (fun _ _ _ _ _ _ us hl => match us, hl with | [_], _ => rfl) ?a ?l ?c ?k
      (case a => k_is); (case l => k_is); (case c => k_is); (case k => k_is)
    have d_law_parents := by
      refine' K14.df_of (x := "_law_parents") (st := K14.topS 43) (ps := ["_law_box_here", "_law_many"]) KX G (fun _ _ _ _ _ _ us hl => match us, hl with | [_, _], _ => rfl) ?a ?l ?c ?k
      (case a => k_is); (case l => k_is); (case c => k_is); (case k => k_is)
    have d_law_forest := by
      refine' K14.df_of (x := "_law_forest") (st := K14.topS 44) (ps := ["_law_words", "_law_parents_here"]) KX G (fun _ _ _ _ _ _ us hl => match us, hl with | [_, _], _ => rfl) ?a ?l ?c ?k
      (case a => k_is); (case l => k_is); (case c => k_is); (case k => k_is)
    have d_law_sizes := by
      refine' K14.df_of (x := "_law_sizes") (st := K14.topS 45) (ps := ["_law_parents_here"]) KX G (fun _ _ _ _ _ _ us hl => match us, hl with | [_], _ => rfl) ?a ?l ?c ?k
      (case a => k_is); (case l => k_is); (case c => k_is); (case k => k_is)
    have d_law_depths := by
      refine' K14.df_of (x := "_law_depths") (st := K14.topS 46) (ps := ["_law_parents_here"]) KX G (fun _ _ _ _ _ _ us hl => match us, hl with | [_], _ => rfl) ?a ?l ?c ?k
      (case a => k_is); (case l => k_is); (case c => k_is); (case k => k_is)
    have d_law_posts := by
      refine' K14.df_of (x := "_law_posts") (st := K14.topS 47) (ps := ["_law_parents_here"]) KX G (fun _ _ _ _ _ _ us hl => match us, hl with | [_], _ => rfl) ?a ?l ?c ?k
      (case a => k_is); (case l => k_is); (case c => k_is); (case k => k_is)
    have d_law_price := by
      refine' K14.df_of (x := "_law_price") (st := K14.topS 48) (ps := ["_law_box_here"]) KX G (fun _ _ _ _ _ _ us hl => match us, hl with | [_], _ => rfl) ?a ?l ?c ?k
      (case a => k_is); (case l => k_is); (case c => k_is); (case k => k_is)
    have d_law_prices := by
      refine' K14.df_of (x := "_law_prices") (st := K14.topS 49) (ps := ["_law_box_here", "_law_words"]) KX G (fun _ _ _ _ _ _ us hl => match us, hl with | [_, _], _ => rfl) ?a ?l ?c ?k
      (case a => k_is); (case l => k_is); (case c => k_is); (case k => k_is)
    have d_law_change := by
      refine' K14.df_of (x := "_law_change") (st := K14.topS 50) (ps := ["_law_prices_here", "_law_word_here", "_law_other_here"]) KX G (fun _ _ _ _ _ _ us hl => match us, hl with | [_, _, _], _ => rfl) ?a ?l ?c ?k
      (case a => k_is); (case l => k_is); (case c => k_is); (case k => k_is)
    have d_law_bad_prices := by
      refine' K14.df_of (x := "_law_bad_prices") (st := K14.topS 51) (ps := ["_law_box_here", "_law_prices_here"]) KX G (fun _ _ _ _ _ _ us hl => match us, hl with | [_, _], _ => rfl) ?a ?l ?c ?k
      (case a => k_is); (case l => k_is); (case c => k_is); (case k => k_is)
    have d_law_other := by
      refine' K14.df_of (x := "_law_other") (st := K14.topS 52) (ps := ["_law_box_here", "_law_words", "_law_parents_here", "_law_most"]) KX G (fun _ _ _ _ _ _ us hl => match us, hl with | [_, _, _, _], _ => rfl) ?a ?l ?c ?k
      (case a => k_is); (case l => k_is); (case c => k_is); (case k => k_is)
    have d_law_bad_word := by
      refine' K14.df_of (x := "_law_bad_word") (st := K14.topS 53) (ps := ["_law_box_here"]) KX G (fun _ _ _ _ _ _ us hl => match us, hl with | [_], _ => rfl) ?a ?l ?c ?k
      (case a => k_is); (case l => k_is); (case c => k_is); (case k => k_is)
    have d_law_bad_tree := by
      refine' K14.df_of (x := "_law_bad_tree") (st := K14.topS 54) (ps := ["_law_box_here", "_law_word_here", "_law_children"]) KX G (fun _ _ _ _ _ _ us hl => match us, hl with | [_, _, _], _ => rfl) ?a ?l ?c ?k
      (case a => k_is); (case l => k_is); (case c => k_is); (case k => k_is)
    have d_law_bad := by
      refine' K14.df_of (x := "_law_bad") (st := K14.topS 55) (ps := ["_law_box_here", "_law_words", "_law_parents_here"]) KX G (fun _ _ _ _ _ _ us hl => match us, hl with | [_, _, _], _ => rfl) ?a ?l ?c ?k
      (case a => k_is); (case l => k_is); (case c => k_is); (case k => k_is)
    have d_law_alike := by
      refine' K14.df_of (x := "_law_alike") (st := K14.topS 56) (ps := ["_law_told", "_law_due"]) KX G (fun _ _ _ _ _ _ us hl => match us, hl with | [_, _], _ => rfl) ?a ?l ?c ?k
      (case a => k_is); (case l => k_is); (case c => k_is); (case k => k_is)
    have d_law_mirrored := by
      refine' K14.df_of (x := "_law_mirrored") (st := K14.topS 57) (ps := ["_law_words", "_law_parents_here"]) KX G (fun _ _ _ _ _ _ us hl => match us, hl with | [_, _], _ => rfl) ?a ?l ?c ?k
      (case a => k_is); (case l => k_is); (case c => k_is); (case k => k_is)
    have d_law_posted := by
      refine' K14.df_of (x := "_law_posted") (st := K14.topS 58) (ps := ["_law_words", "_law_parents_here"]) KX G (fun _ _ _ _ _ _ us hl => match us, hl with | [_, _], _ => rfl) ?a ?l ?c ?k
      (case a => k_is); (case l => k_is); (case c => k_is); (case k => k_is)
    have d_law_stretches := by
      refine' K14.df_of (x := "_law_stretches") (st := K14.topS 59) (ps := ["_law_leaves"]) KX G (fun _ _ _ _ _ _ us hl => match us, hl with | [_], _ => rfl) ?a ?l ?c ?k
      (case a => k_is); (case l => k_is); (case c => k_is); (case k => k_is)
    have d_law_filled := by
      refine' K14.df_of (x := "_law_filled") (st := K14.topS 60) (ps := ["_law_one", "_law_other_here", "_law_prices_here", "_law_trees", "_law_first", "_law_second"]) KX G (fun _ _ _ _ _ _ us hl => match us, hl with | [_, _, _, _, _, _], _ => rfl) ?a ?l ?c ?k
      (case a => k_is); (case l => k_is); (case c => k_is); (case k => k_is)
    have d_law_distance := by
      refine' K14.df_of (x := "_law_distance") (st := K14.topS 61) (ps := ["_law_first", "_law_second", "_law_prices_here"]) KX G (fun _ _ _ _ _ _ us hl => match us, hl with | [_, _, _], _ => rfl) ?a ?l ?c ?k
      (case a => k_is); (case l => k_is); (case c => k_is); (case k => k_is)
    have d_law_asked := by
      refine' K14.df_of (x := "_law_asked") (st := K14.topS 62) (ps := ["_law_a", "_law_b", "_law_prices_here"]) KX G (fun _ _ _ _ _ _ us hl => match us, hl with | [_, _, _], _ => rfl) ?a ?l ?c ?k
      (case a => k_is); (case l => k_is); (case c => k_is); (case k => k_is)
    have d_law_refused := by
      refine' K14.df_of (x := "_law_refused") (st := K14.topS 63) (ps := ["_law_a", "_law_b", "_law_prices_here", "_law_bad_here", "_law_other_here", "_law_spoilt"]) KX G (fun _ _ _ _ _ _ us hl => match us, hl with | [_, _, _, _, _, _], _ => rfl) ?a ?l ?c ?k
      (case a => k_is); (case l => k_is); (case c => k_is); (case k => k_is)
    have d_law_positive := by
      refine' K14.df_of (x := "_law_positive") (st := K14.topS 64) (ps := ["_law_prices_here"]) KX G (fun _ _ _ _ _ _ us hl => match us, hl with | [_], _ => rfl) ?a ?l ?c ?k
      (case a => k_is); (case l => k_is); (case c => k_is); (case k => k_is)
    have d_law_flat := by
      refine' K14.df_of (x := "_law_flat") (st := K14.topS 65) (ps := ["_law_words", "_law_others", "_law_prices_here"]) KX G (fun _ _ _ _ _ _ us hl => match us, hl with | [_, _, _], _ => rfl) ?a ?l ?c ?k
      (case a => k_is); (case l => k_is); (case c => k_is); (case k => k_is)
    have d_law_joined := by
      refine' K14.df_of (x := "_law_joined") (st := K14.topS 66) (ps := ["_law_a", "_law_b", "_law_c", "_law_price_here", "_law_prices_here"]) KX G (fun _ _ _ _ _ _ us hl => match us, hl with | [_, _, _, _, _], _ => rfl) ?a ?l ?c ?k
      (case a => k_is); (case l => k_is); (case c => k_is); (case k => k_is)
    have d_law := by
      refine' K14.df_of (x := "law") (st := K14.topS 67) (ps := ["_law_script"]) KX G (fun _ _ _ _ _ _ us hl => match us, hl with | [_], _ => rfl) ?a ?l ?c ?k
      (case a => k_is); (case l => k_is); (case c => k_is); (case k => k_is)
    have x1 := by
      refine' K14.inv_of (P := PySem.Challenge.rw_graftbook_k14_whole_distances.prog) (nm := "InvalidForest") (qual := "InvalidForest.__init__") KX G ?aC ?xL ?rv ?sa ?ga ?gg ?nb ?iC ?tC ?kC ?eC ?tyC ?hC ?isC ?sC ?ve ?me ?sup ?st ?zs ?lI ?cI ?lc ?ld ?v2 ?fi ?ln ?tp
      (case aC => k_is); (case xL => k_is); (case rv => first | rfl | decide +kernel); (case sa => k_is); (case ga => k_is); (case gg => k_is); (case nb => k_is); (case iC => k_is); (case tC => k_is); (case kC => k_is); (case eC => k_is); (case tyC => k_is); (case hC => k_is); (case isC => k_is); (case sC => first | rfl | k_is); (case ve => k_is); (case me => k_is); (case sup => ks_is); (case st => k_is); (case zs => k_is); (case lI => k_is); (case cI => k_is); (case lc => k_is); (case ld => k_is); (case v2 => rfl); (case fi => first | rfl | decide +kernel); (case ln => rfl); (case tp => first | rfl | decide +kernel)
    have x2 := by
      refine' K14.inv_of (P := PySem.Challenge.rw_graftbook_k14_whole_distances.prog) (nm := "InvalidPrices") (qual := "InvalidPrices.__init__") KX G ?aC ?xL ?rv ?sa ?ga ?gg ?nb ?iC ?tC ?kC ?eC ?tyC ?hC ?isC ?sC ?ve ?me ?sup ?st ?zs ?lI ?cI ?lc ?ld ?v2 ?fi ?ln ?tp
      (case aC => k_is); (case xL => k_is); (case rv => first | rfl | decide +kernel); (case sa => k_is); (case ga => k_is); (case gg => k_is); (case nb => k_is); (case iC => k_is); (case tC => k_is); (case kC => k_is); (case eC => k_is); (case tyC => k_is); (case hC => k_is); (case isC => k_is); (case sC => first | rfl | k_is); (case ve => k_is); (case me => k_is); (case sup => ks_is); (case st => k_is); (case zs => k_is); (case lI => k_is); (case cI => k_is); (case lc => k_is); (case ld => k_is); (case v2 => rfl); (case fi => first | rfl | decide +kernel); (case ln => rfl); (case tp => first | rfl | decide +kernel)
    refine' K14.top_fin KX G hmg d_is_int d_is_count d_has_size d_is_word d_are_triples d_is_prices d_need_prices d_price_between d_table_ahead d_row_distance d_is_forest_value d_need_forest d_need_forests d_put_nodes d_listed d_words_of d_sizes_by d_levels_by d_posts_by d_nodes_behind d_firsts_of d_looked_at d_forest_distance d_law_cell d_law_mix d_law_box d_law_draw d_law_word d_law_parents d_law_forest d_law_sizes d_law_depths d_law_posts d_law_price d_law_prices d_law_change d_law_bad_prices d_law_other d_law_bad_word d_law_bad_tree d_law_bad d_law_alike d_law_mirrored d_law_posted d_law_stretches d_law_filled d_law_distance d_law_asked d_law_refused d_law_positive d_law_flat d_law_joined d_law x1 x2 ?isC ?s21 ?aC ?pg ?hd ?po ?sa ?mk ?kc ?n0 ?n1 ?n2 ?n3 ?n4 ?n5 ?n6 ?n7 ?m0 ?m1 ?m2 ?m3 ?m4 ?z0 ?z1 ?z2 ?z3 ?z4 ?z5 ?z6 ?z7 ?z8 ?z9 ?z10 ?z11 ?z12 ?z13 ?vL ?vM
    (case isC => k_is)
    (case s21 => k_is)
    (case aC => k_is)
    (case pg => k_is)
    (case hd => k_is)
    (case po => k_is)
    (case sa => k_is)
    (case mk => k_is)
    (case kc => k_is)
    (case n0 => k_is)
    (case n1 => k_is)
    (case n2 => k_is)
    (case n3 => k_is)
    (case n4 => k_is)
    (case n5 => k_is)
    (case n6 => k_is)
    (case n7 => k_is)
    case m0 =>
      refine' K14.mf_of (x := "__init__") (q := "Stretches.__init__") (st := L2.inClass (K14.topS 33) 0) (ps := ["self", "a", "b", "prices"]) (fun _ _ _ _ _ _ us hl => match us, hl with | [_, _, _, _], _ => rfl) ?a ?i ?l ?c ?k
      (case a => k_is); (case i => k_is); (case l => k_is); (case c => k_is); (case k => k_is)
    case m1 =>
      refine' K14.mf_of (x := "whole") (q := "Stretches.whole") (st := L2.inClass (K14.topS 33) 1) (ps := ["self"]) (fun _ _ _ _ _ _ us hl => match us, hl with | [_], _ => rfl) ?a ?i ?l ?c ?k
      (case a => k_is); (case i => k_is); (case l => k_is); (case c => k_is); (case k => k_is)
    case m2 =>
      refine' K14.mf_of (x := "change") (q := "Stretches.change") (st := L2.inClass (K14.topS 33) 2) (ps := ["self", "high", "end"]) (fun _ _ _ _ _ _ us hl => match us, hl with | [_, _, _], _ => rfl) ?a ?i ?l ?c ?k
      (case a => k_is); (case i => k_is); (case l => k_is); (case c => k_is); (case k => k_is)
    case m3 =>
      refine' K14.mf_of (x := "parts") (q := "Stretches.parts") (st := L2.inClass (K14.topS 33) 3) (ps := ["self", "key"]) (fun _ _ _ _ _ _ us hl => match us, hl with | [_, _], _ => rfl) ?a ?i ?l ?c ?k
      (case a => k_is); (case i => k_is); (case l => k_is); (case c => k_is); (case k => k_is)
    case m4 =>
      refine' K14.mf_of (x := "least") (q := "Stretches.least") (st := L2.inClass (K14.topS 33) 4) (ps := ["self", "key"]) (fun _ _ _ _ _ _ us hl => match us, hl with | [_, _], _ => rfl) ?a ?i ?l ?c ?k
      (case a => k_is); (case i => k_is); (case l => k_is); (case c => k_is); (case k => k_is)
    (case z0 => k_is)
    (case z1 => k_is)
    (case z2 => k_is)
    (case z3 => k_is)
    (case z4 => k_is)
    (case z5 => k_is)
    (case z6 => k_is)
    (case z7 => k_is)
    (case z8 => k_is)
    (case z9 => k_is)
    (case z10 => k_is)
    (case z11 => k_is)
    (case z12 => k_is)
    (case z13 => k_is)
    (case vL => k_is)
    (case vM => k_is)
